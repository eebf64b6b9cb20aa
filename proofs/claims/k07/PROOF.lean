import PyProof.Rows.All
import Wide.All
import OpenK.AllK
import Wide.FinOn
import HandS.ForMost
import HandS.ForExc
import HandS.Deep
import HandS.WideBits
import HandS.SortInts
import HandS.Wide
import KE.SortData
import HandS.TupAny
import HandS.IsInst
import HandS.Codes
import HandS.OwnEq
import KE.OsArith
import HandS.Conv
import HandS.FStr
import HandS.ExcInit
import HandS.ExcField
import KE.KExcLine
import HandS.SlotsOwn
import HandS.TryOnly
import HandS.WordsExc
import HandS.Steps
import HandS.TryMany
import HandS.Star
import HandS.SetBool
import HandS.Strs
import HandS.Style
import PySem.Challenge.RW_shortbynarrow_k07_merged_and_renamed
set_option autoImplicit false
/-! Plain mathematics: lists in a strict order, lots, transversals. -/
namespace KM

/-- two lists in the same strict order with the same members are one -/
theorem ext_of_pairwise {α : Type} {r : α → α → Prop} (irr : ∀ a, ¬ r a a) (asym : ∀ a b, r a b → ¬ r b a) :
    ∀ {l m : List α}, l.Pairwise r → m.Pairwise r → (∀ x, x ∈ l ↔ x ∈ m) → l = m
  | [], [], _, _, _ => rfl
  | [], b :: m, _, _, h => absurd ((h b).mpr List.mem_cons_self) (by simp)
  | a :: l, [], _, _, h => absurd ((h a).mp List.mem_cons_self) (by simp)
  | a :: l, b :: m, hl, hm, h => by
    have hl' := List.pairwise_cons.mp hl
    have hm' := List.pairwise_cons.mp hm
    have e : a = b := by
      rcases List.mem_cons.mp ((h a).mp List.mem_cons_self) with e | ha
      · exact e
      · rcases List.mem_cons.mp ((h b).mpr List.mem_cons_self) with e | hb
        · exact e.symm
        · exact absurd (hm'.1 a ha) (asym _ _ (hl'.1 b hb))
    subst e
    congr 1
    refine ext_of_pairwise irr asym hl'.2 hm'.2 fun x => ⟨fun hx => ?_, fun hx => ?_⟩
    · rcases List.mem_cons.mp ((h x).mp (List.mem_cons_of_mem _ hx)) with e | hx'
      · subst e; exact absurd (hl'.1 _ hx) (irr _)
      · exact hx'
    · rcases List.mem_cons.mp ((h x).mpr (List.mem_cons_of_mem _ hx)) with e | hx'
      · subst e; exact absurd (hm'.1 _ hx) (irr _)
      · exact hx'

abbrev T := List Nat
abbrev Asc (l : T) : Prop := l.Pairwise (· < ·)
theorem asc_ext {l m : T} (a : Asc l) (b : Asc m) (h : ∀ x, x ∈ l ↔ x ∈ m) : l = m :=
  ext_of_pairwise (fun a => Nat.lt_irrefl a) (fun _ _ h => Nat.not_lt_of_gt h) a b h

/-! ### the order of tuples -/
theorem leT_total (a b : T) : (decide (a ≤ b) || decide (b ≤ a)) = true := by
  rcases List.le_total a b with h | h <;> simp [h]
theorem leT_trans (a b c : T) : decide (a ≤ b) = true → decide (b ≤ c) = true → decide (a ≤ c) = true := by
  intro h1 h2
  exact decide_eq_true (List.le_trans (of_decide_eq_true h1) (of_decide_eq_true h2))
/-- sorted(..) -/
def srt (l : List T) : List T := l.mergeSort (fun a b => decide (a ≤ b))
theorem srt_perm (l : List T) : (srt l).Perm l := List.mergeSort_perm _ _
theorem srt_mem {l : List T} {x : T} : x ∈ srt l ↔ x ∈ l := (srt_perm l).mem_iff
theorem srt_len (l : List T) : (srt l).length = l.length := (srt_perm l).length_eq
theorem srt_le (l : List T) : (srt l).Pairwise (· ≤ ·) := by
  have h := List.pairwise_mergeSort (le := fun a b : T => decide (a ≤ b)) leT_trans leT_total l
  exact h.imp fun h => of_decide_eq_true h
theorem srt_lt {l : List T} (hn : l.Nodup) : (srt l).Pairwise (· < ·) := by
  have h1 := srt_le l
  have h2 : (srt l).Nodup := (srt_perm l).nodup_iff.mpr hn
  refine (List.Pairwise.and h1 h2).imp ?_
  rintro a b ⟨h, hne⟩
  rcases List.le_iff_lt_or_eq.mp h with h | h
  · exact h
  · exact absurd h hne
theorem ltT_ext {l m : List T} (a : l.Pairwise (· < ·)) (b : m.Pairwise (· < ·)) (h : ∀ x, x ∈ l ↔ x ∈ m) : l = m :=
  ext_of_pairwise (fun a => List.lt_irrefl a) (fun _ _ h => List.lt_asymm h) a b h
theorem srt_id {l : List T} (h : l.Pairwise (· < ·)) : srt l = l := by
  have hn : l.Nodup := h.imp fun {a b} hab e => by subst e; exact List.lt_irrefl _ hab
  exact ltT_ext (srt_lt hn) h fun x => srt_mem
theorem nodup_of_lt {l : List T} (h : l.Pairwise (· < ·)) : l.Nodup := h.imp fun {a b} hab e => by subst e; exact List.lt_irrefl _ hab
/-- two lists without doubles, with the same members, are sorted alike -/
theorem srt_ext {l m : List T} (a : l.Nodup) (b : m.Nodup) (h : ∀ x, x ∈ l ↔ x ∈ m) : srt l = srt m :=
  ltT_ext (srt_lt a) (srt_lt b) fun x => by rw [srt_mem, srt_mem, h]
end KM
set_option autoImplicit false
/-! Sets as bits: what masks say, the least ones, and the sets that meet all lots. -/
namespace KM

theorem and_zero_iff {a b : Nat} : a &&& b = 0 ↔ ∀ i, a.testBit i = true → b.testBit i = false := by
  constructor
  · intro h i hi
    have := congrArg (fun n => n.testBit i) h
    simpa [hi] using this
  · intro h
    apply Nat.eq_of_testBit_eq
    intro i
    cases ha : a.testBit i
    · simp [ha]
    · simp [ha, h i ha]
theorem and_left_iff {a b : Nat} : a &&& b = a ↔ ∀ i, a.testBit i = true → b.testBit i = true := by
  constructor
  · intro h i hi
    have := congrArg (fun n => n.testBit i) h
    simpa [hi] using this
  · intro h
    apply Nat.eq_of_testBit_eq
    intro i
    cases ha : a.testBit i
    · simp [ha]
    · simp [ha, h i ha]
/-- a within b -/
abbrev Sb (a b : Nat) : Prop := ∀ i, a.testBit i = true → b.testBit i = true
theorem Sb.refl (a : Nat) : Sb a a := fun _ h => h
theorem Sb.trans {a b c : Nat} (h : Sb a b) (k : Sb b c) : Sb a c := fun i x => k i (h i x)
theorem Sb.antisymm {a b : Nat} (h : Sb a b) (k : Sb b a) : a = b := by
  apply Nat.eq_of_testBit_eq
  intro i
  have h1 := h i
  have h2 := k i
  cases ha : a.testBit i <;> cases hb : b.testBit i <;> simp_all
theorem Sb.le {a b : Nat} (h : Sb a b) : a ≤ b := by
  have e : a &&& b = a := and_left_iff.mpr h
  rw [← e]
  exact Nat.and_le_right

def maskOf (l : T) : Nat := (l.map (fun e => 2 ^ e)).sum
theorem mask_or : ∀ {l : T}, Asc l → ∀ k, (∀ x ∈ l, k ≤ x) → (∀ i, (maskOf l).testBit i = decide (i ∈ l)) ∧ 2 ^ k ∣ maskOf l
  | [], _, k, _ => ⟨fun i => by simp [maskOf], by simp [maskOf]⟩
  | a :: l, h, k, hk => by
    have h' := List.pairwise_cons.mp h
    obtain ⟨ih, dv⟩ := mask_or h'.2 (a + 1) fun x hx => h'.1 x hx
    obtain ⟨q, hq⟩ := dv
    have e1 : maskOf (a :: l) = 2 ^ a + maskOf l := by simp [maskOf]
    have e2 : maskOf (a :: l) = maskOf l ||| 2 ^ a := by
      rw [e1, hq, Nat.add_comm, Nat.two_pow_add_eq_or_of_lt (Nat.pow_lt_pow_right (by omega) (by omega))]
    refine ⟨fun i => ?_, ?_⟩
    · rw [e2, Nat.testBit_or, ih, Nat.testBit_two_pow]
      by_cases hi : i = a
      · subst hi; simp
      · have : a ≠ i := fun z => hi z.symm
        simp [hi, this]
    · rw [e1, hq]
      have hka : k ≤ a := hk a List.mem_cons_self
      refine Nat.dvd_add (Nat.pow_dvd_pow 2 hka) (Nat.dvd_trans (Nat.pow_dvd_pow 2 (by omega : k ≤ a + 1)) (Nat.dvd_mul_right _ _))
theorem mask_bit {l : T} (h : Asc l) (i : Nat) : (maskOf l).testBit i = decide (i ∈ l) := (mask_or h 0 fun _ _ => Nat.zero_le _).1 i
theorem mask_bit_iff {l : T} (h : Asc l) {i : Nat} : (maskOf l).testBit i = true ↔ i ∈ l := by rw [mask_bit h]; simp

def bitLen (m : Nat) : Nat := if m = 0 then 0 else m.log2 + 1
def thingsOf (m : Nat) : T := (List.range (bitLen m)).filter (fun e => m.testBit e)
theorem range_asc (n : Nat) : Asc (List.range n) := List.pairwise_lt_range
theorem things_asc (m : Nat) : Asc (thingsOf m) := (range_asc _).filter _
theorem mem_things {m i : Nat} : i ∈ thingsOf m ↔ m.testBit i = true := by
  unfold thingsOf
  rw [List.mem_filter, List.mem_range]
  refine ⟨fun h => h.2, fun h => ⟨?_, h⟩⟩
  have hm : 2 ^ i ≤ m := Nat.ge_two_pow_of_testBit h
  have h0 : m ≠ 0 := by
    have := Nat.two_pow_pos i
    omega
  unfold bitLen
  rw [if_neg h0]
  have := (Nat.le_log2 h0).mpr hm
  omega
theorem things_mask {l : T} (h : Asc l) : thingsOf (maskOf l) = l := asc_ext (things_asc _) h fun x => by rw [mem_things, mask_bit_iff h]
theorem mask_things (m : Nat) : maskOf (thingsOf m) = m := by
  apply Nat.eq_of_testBit_eq
  intro i
  have h := @mem_things m i
  rw [mask_bit (things_asc m)]
  cases hb : m.testBit i <;> simp_all
theorem things_inj {a b : Nat} (h : thingsOf a = thingsOf b) : a = b := by rw [← mask_things a, ← mask_things b, h]
theorem mask_inj {a b : T} (ha : Asc a) (hb : Asc b) (h : maskOf a = maskOf b) : a = b := by rw [← things_mask ha, ← things_mask hb, h]

/-! ### the least masks -/
def sortN (l : List Nat) : List Nat := l.mergeSort (fun a b => decide (a ≤ b))
theorem sortN_perm (l : List Nat) : (sortN l).Perm l := List.mergeSort_perm _ _
def leastStep (kept : List Nat) (m : Nat) : List Nat := if kept.all (fun o => o &&& m != o) then kept ++ [m] else kept
def leastMasks (ms : List Nat) : List Nat := (sortN ms).foldl leastStep []
theorem keepLeast_all : ∀ (r kept : List Nat), (kept ++ r).Pairwise (fun a b => ¬ Sb a b) → r.foldl leastStep kept = kept ++ r
  | [], kept, _ => by simp
  | m :: r, kept, h => by
    have hk : kept.all (fun o => o &&& m != o) = true := by
      rw [List.all_eq_true]
      intro o ho
      have := (List.pairwise_append.mp h).2.2 o ho m List.mem_cons_self
      simp only [bne_iff_ne, ne_eq]
      exact fun e => this (and_left_iff.mp e)
    rw [List.foldl_cons]
    have e : leastStep kept m = kept ++ [m] := by unfold leastStep; rw [if_pos hk]
    rw [e, keepLeast_all r (kept ++ [m]) (by simpa using h)]
    simp
theorem fold_take {α β : Type} (f : β → α → β) (b : β) {l : List α} {i : Nat} {x : α} (h : l[i]? = some x) : (l.take (i + 1)).foldl f b = f ((l.take i).foldl f b) x := by
  rw [List.take_add_one, h, List.foldl_append]
  rfl
def lotsOfMasks (ms : List Nat) : List T := srt (ms.map thingsOf)
def leastLots (lots : List T) : List T := lotsOfMasks (leastMasks (lots.map maskOf))
/-- good lots: none within another one, each ascending, in order -/
structure Good (lots : List T) : Prop where
  asc : ∀ l ∈ lots, Asc l
  lt : lots.Pairwise (· < ·)
  anti : ∀ l ∈ lots, ∀ m ∈ lots, (∀ x ∈ l, x ∈ m) → l = m
theorem least_good {lots : List T} (g : Good lots) : leastLots lots = lots := by
  have hp := sortN_perm (lots.map maskOf)
  have nd : (lots.map maskOf).Nodup := by
    refine List.pairwise_map.mpr ?_
    refine (List.Pairwise.and_mem.mp (nodup_of_lt g.lt)).imp ?_
    rintro a b ⟨ha, hb, hne⟩ e
    exact hne (mask_inj (g.asc a ha) (g.asc b hb) e)
  have nds : (sortN (lots.map maskOf)).Nodup := hp.nodup_iff.mpr nd
  have hk : leastMasks (lots.map maskOf) = sortN (lots.map maskOf) := by
    refine (keepLeast_all _ [] ?_).trans (by simp)
    refine (List.Pairwise.and_mem.mp nds).imp ?_
    rintro a b ⟨ha, hb, hne⟩ hs
    obtain ⟨l, hl, rfl⟩ := List.mem_map.mp (hp.mem_iff.mp ha)
    obtain ⟨m, hm, rfl⟩ := List.mem_map.mp (hp.mem_iff.mp hb)
    have : l = m := g.anti l hl m hm fun x hx => (mask_bit_iff (g.asc m hm)).mp (hs x ((mask_bit_iff (g.asc l hl)).mpr hx))
    exact hne (by rw [this])
  unfold leastLots lotsOfMasks
  rw [hk]
  have hid : (lots.map maskOf).map thingsOf = lots := by
    rw [List.map_map]
    have : lots.map (thingsOf ∘ maskOf) = lots.map id := List.map_congr_left fun l hl => things_mask (g.asc l hl)
    rw [this, List.map_id]
  have hperm : ((sortN (lots.map maskOf)).map thingsOf).Perm lots := by
    have := hp.map thingsOf
    rwa [hid] at this
  have h1 : srt ((sortN (lots.map maskOf)).map thingsOf) = srt lots := srt_ext (hperm.nodup_iff.mpr (nodup_of_lt g.lt)) (nodup_of_lt g.lt) fun x => hperm.mem_iff
  rw [h1, srt_id g.lt]
/-! ### the sets that meet all lots -/
def grownAt (met missed : List Nat) (mask : Nat) (g : List Nat) (e : Nat) : List Nat :=
  missed.foldl (fun g one => if (met.filter (fun t => t &&& mask == 2 ^ e)).all (fun two => two &&& (one ||| 2 ^ e) != two) then g ++ [one ||| 2 ^ e] else g) g
def blkStep (kept : List Nat) (lot : T) : List Nat :=
  kept.filter (fun one => one &&& maskOf lot != 0) ++ lot.foldl (grownAt (kept.filter (fun one => one &&& maskOf lot != 0)) (kept.filter (fun one => one &&& maskOf lot == 0)) (maskOf lot)) []
def blockerLots (lots : List T) : List T := lotsOfMasks (lots.foldl blkStep [0])
end KM
set_option autoImplicit false
/-! The law's own walk, as functions. -/
namespace KM
def inside (a b : T) : Bool := (a.filter fun x => !decide (x ∈ b)).length == 0
def common (a b : T) : Nat := (a.filter fun x => decide (x ∈ b)).length
def subsets (n : Nat) : List T := (List.range n).foldl (fun f t => f ++ f.map (· ++ [t])) [[]]
def leastL1 (lots : List T) (kept : List T) (lot : T) : List T :=
  if lot ∈ kept then kept else if (lots.filter fun o => !decide (o = lot) && inside o lot).length == 0 then kept ++ [lot] else kept
def leastL (lots : List T) : List T := srt (lots.foldl (leastL1 lots) [])
def holds (lots : List T) (those : T) : Bool := lots.any fun l => inside l those
def meets (lots : List T) (those : T) : Bool := lots.all fun l => common l those != 0
def spare (lots : List T) (s : T) : Nat := (s.filter fun t => meets lots (s.filter fun o => o != t)).length
def isBlk (lots : List T) (s : T) : Bool := meets lots s && spare lots s == 0
def blocker (n : Nat) (lots : List T) : List T := srt ((subsets n).filter (isBlk lots))
def sized (n k : Nat) : List T := srt ((subsets n).filter fun s => s.length == k)
def fanL (n : Nat) : List T := srt ((List.range (n - 1)).map (fun i => [0, i + 1]) ++ [(List.range (n - 1)).map fun i => i + 1])
def ringL (n : Nat) : List T := srt ((List.range (n - 1)).map (fun i => [i, i + 1]) ++ [[0, n - 1]])
def rest (n : Nat) (s : T) : T := (List.range n).filter fun t => !decide (t ∈ s)
def within (s : T) (wide : List T) : Bool := wide.any fun o => inside s o
theorem inside_iff {a b : T} : inside a b = true ↔ ∀ x ∈ a, x ∈ b := by
  unfold inside
  rw [beq_iff_eq, List.length_eq_zero_iff, List.filter_eq_nil_iff]
  simp
theorem common_ne {a b : T} : common a b ≠ 0 ↔ ∃ x ∈ a, x ∈ b := by
  unfold common
  rw [ne_eq, List.length_eq_zero_iff, List.filter_eq_nil_iff]
  simp
theorem holds_iff {lots : List T} {s : T} : holds lots s = true ↔ ∃ l ∈ lots, ∀ x ∈ l, x ∈ s := by
  unfold holds
  rw [List.any_eq_true]
  constructor
  · rintro ⟨l, h1, h2⟩; exact ⟨l, h1, inside_iff.mp h2⟩
  · rintro ⟨l, h1, h2⟩; exact ⟨l, h1, inside_iff.mpr h2⟩
theorem meets_iff {lots : List T} {s : T} : meets lots s = true ↔ ∀ l ∈ lots, ∃ x ∈ l, x ∈ s := by
  unfold meets
  rw [List.all_eq_true]
  constructor
  · intro h l hl
    exact common_ne.mp (by simpa using h l hl)
  · intro h l hl
    simpa using common_ne.mpr (h l hl)
theorem within_iff {wide : List T} {s : T} : within s wide = true ↔ ∃ o ∈ wide, ∀ x ∈ s, x ∈ o := by
  unfold within
  rw [List.any_eq_true]
  constructor
  · rintro ⟨l, h1, h2⟩; exact ⟨l, h1, inside_iff.mp h2⟩
  · rintro ⟨l, h1, h2⟩; exact ⟨l, h1, inside_iff.mpr h2⟩
theorem mem_rest {n : Nat} {s : T} {x : Nat} : x ∈ rest n s ↔ x < n ∧ x ∉ s := by
  unfold rest
  rw [List.mem_filter, List.mem_range]
  simp
theorem rest_asc (n : Nat) (s : T) : Asc (rest n s) := (range_asc n).filter _
/-! all sets -/
theorem range_succ_fold {α : Type} (f : α → Nat → α) (a : α) (n : Nat) : (List.range (n + 1)).foldl f a = f ((List.range n).foldl f a) n := by
  rw [List.range_succ, List.foldl_append]
  rfl
theorem subsets_succ (n : Nat) : subsets (n + 1) = subsets n ++ (subsets n).map (· ++ [n]) := range_succ_fold _ _ _
theorem subsets_len : ∀ n, (subsets n).length = 2 ^ n
  | 0 => rfl
  | n + 1 => by
    rw [subsets_succ, List.length_append, List.length_map, subsets_len n, Nat.pow_succ]
    omega
theorem subsets_mem : ∀ (n : Nat) (s : T), s ∈ subsets n ↔ Asc s ∧ ∀ x ∈ s, x < n
  | 0, s => by
    show s ∈ [[]] ↔ _
    constructor
    · intro h
      have : s = [] := by simpa using h
      subst this
      exact ⟨List.Pairwise.nil, by simp⟩
    · rintro ⟨_, h⟩
      cases s with
      | nil => simp
      | cons a r => exact absurd (h a List.mem_cons_self) (by omega)
  | n + 1, s => by
    rw [subsets_succ, List.mem_append, subsets_mem n s, List.mem_map]
    constructor
    · rintro (⟨h1, h2⟩ | ⟨t, ht, rfl⟩)
      · exact ⟨h1, fun x hx => Nat.lt_succ_of_lt (h2 x hx)⟩
      · obtain ⟨h1, h2⟩ := (subsets_mem n t).mp ht
        refine ⟨List.pairwise_append.mpr ⟨h1, List.pairwise_singleton _ _, fun a ha b hb => ?_⟩, fun x hx => ?_⟩
        · have : b = n := by simpa using hb
          rw [this]; exact h2 a ha
        · rcases List.mem_append.mp hx with hx | hx
          · exact Nat.lt_succ_of_lt (h2 x hx)
          · have : x = n := by simpa using hx
            omega
    · rintro ⟨h1, h2⟩
      by_cases hn : n ∈ s
      · right
        refine ⟨s.filter (fun x => decide (x < n)), (subsets_mem n _).mpr ⟨h1.filter _, fun x hx => by simpa using (List.mem_filter.mp hx).2⟩, ?_⟩
        refine asc_ext (List.pairwise_append.mpr ⟨h1.filter _, List.pairwise_singleton _ _, fun a ha b hb => ?_⟩) h1 fun x => ?_
        · have : b = n := by simpa using hb
          rw [this]; simpa using (List.mem_filter.mp ha).2
        · rw [List.mem_append, List.mem_filter, List.mem_singleton]
          constructor
          · rintro (⟨h, _⟩ | rfl)
            · exact h
            · exact hn
          · intro h
            have := h2 x h
            by_cases hx : x = n
            · exact .inr hx
            · exact .inl ⟨h, by simp; omega⟩
      · left
        refine ⟨h1, fun x hx => ?_⟩
        have := h2 x hx
        have : x ≠ n := fun e => hn (e ▸ hx)
        omega
theorem subsets_nodup : ∀ n, (subsets n).Nodup
  | 0 => by show ([[]] : List T).Nodup; simp
  | n + 1 => by
    rw [subsets_succ]
    refine List.pairwise_append.mpr ⟨subsets_nodup n, List.pairwise_map.mpr ((subsets_nodup n).imp fun {a b} h e => h (List.append_cancel_right e)), fun a ha b hb e => ?_⟩
    obtain ⟨t, _, rfl⟩ := List.mem_map.mp hb
    have := ((subsets_mem n a).mp ha).2 n (by rw [e]; simp)
    omega
end KM
set_option Elab.async false
set_option linter.all false
set_option autoImplicit false
set_option maxRecDepth 100000
/-! Data over the hand layer: what a value stands for (Is), the state as data slot by slot (Env), what an expression gives as data (EP, EF, ET). -/
namespace Y
open PySem L2

inductive D where
  | non | bl (b : Bool) | int (i : Int) | str (x : Str) | ty (n : String)
  | adr (a : Addr) | tup (l : List D) | lst (l : List D) | ins (C : Addr) (ns : List Str) (l : List D)

mutual
inductive Is (K : PySem.W.Frag) (H : Hp) : V → D → Prop
  | non : Is K H .non .non
  | bl (b : Bool) : Is K H (.bl b) (.bl b)
  | int (i : Int) : Is K H (.int i) (.int i)
  | str (x : Str) : Is K H (.str x) (.str x)
  | ty (n : String) : Is K H (.ty n) (.ty n)
  | adr (a : Addr) : Is K H (.ref a) (.adr a)
  | tup {a : Addr} {xs : List V} {l : List D} : SqT K H a xs → IsAll K H xs l → Is K H (.ref a) (.tup l)
  | lst {a : Addr} {xs : List V} {l : List D} : SqL K H a xs → IsAll K H xs l → Is K H (.ref a) (.lst l)
  | ins {a C dx : Addr} {fs : List (Str × V)} {ns : List Str} {l : List D} : H a = some (.ins C dx fs) → fs.map (·.1) = ns → IsAll K H (fs.map (·.2)) l → Is K H (.ref a) (.ins C ns l)
inductive IsAll (K : PySem.W.Frag) (H : Hp) : List V → List D → Prop
  | nil : IsAll K H [] []
  | cons {v : V} {vs : List V} {d : D} {l : List D} : Is K H v d → IsAll K H vs l → IsAll K H (v :: vs) (d :: l)
end

/-- all that is known in H is known in H' -/
def Ex (H H' : Hp) : Prop := ∀ a o, H a = some o → H' a = some o
theorem Ex.refl (H : Hp) : Ex H H := fun _ _ h => h
theorem Ex.trans {H H1 H2 : Hp} (a : Ex H H1) (b : Ex H1 H2) : Ex H H2 := fun x o h => b x o (a x o h)
theorem Ex.new {H : Hp} {p : Addr} {o : HO} (h : H p = none) : Ex H (upd H p o) := fun a u e => by
  rw [upd_ne (ne_of_none e h)]
  exact e
theorem Ex.back {H H' : Hp} {p : Addr} (e : Ex H H') (h : H' p = none) : H p = none := by
  cases h1 : H p with
  | none => rfl
  | some o =>
    rw [e p o h1] at h
    cases h

/-- the heap without what may change -/
def hid (P : List Addr) (H : Hp) : Hp := fun a => if a ∈ P then none else H a
theorem hid_nil (H : Hp) : hid [] H = H := by funext a; simp [hid]
theorem hid_at {P : List Addr} {H : Hp} {a : Addr} (h : a ∉ P) : hid P H a = H a := by simp [hid, h]
theorem hid_some {P : List Addr} {H : Hp} {a : Addr} {o : HO} (h : hid P H a = some o) : a ∉ P ∧ H a = some o := by
  unfold hid at h
  split at h
  · cases h
  · exact ⟨by assumption, h⟩
theorem hid_le (P : List Addr) (H : Hp) : Ex (hid P H) H := fun _ _ h => (hid_some h).2
theorem hid_sub {P P' : List Addr} {H : Hp} (h : ∀ a ∈ P', a ∈ P) : Ex (hid P H) (hid P' H) := fun a o e => by
  obtain ⟨h1, h2⟩ := hid_some e
  rw [hid_at fun z => h1 (h a z)]
  exact h2
theorem hid_ex {P : List Addr} {H H' : Hp} (e : Ex H H') : Ex (hid P H) (hid P H') := fun a o h => by
  obtain ⟨h1, h2⟩ := hid_some h
  rw [hid_at h1]
  exact e a o h2

section
variable {K : PySem.W.Frag} {H H' : Hp}
theorem rd_ex {a : Addr} {u : HO} (e : Ex H H') (h : Rd H a u) : Rd H' a u := by
  rcases h with h | ⟨o, h⟩
  · exact .inl (e a _ h)
  · exact .inr ⟨o, e a _ h⟩
theorem sqL_ex {a : Addr} {xs : List V} (e : Ex H H') (h : SqL K H a xs) : SqL K H' a xs := h.elim (fun h => .inl (rd_ex e h)) .inr
theorem sqT_ex {a : Addr} {xs : List V} (e : Ex H H') (h : SqT K H a xs) : SqT K H' a xs := h.elim (fun h => .inl (rd_ex e h)) .inr
mutual
theorem Is.mono (e : Ex H H') : ∀ {v : V} {d : D}, Is K H v d → Is K H' v d
  | _, _, .non => .non
  | _, _, .bl b => .bl b
  | _, _, .int i => .int i
  | _, _, .str x => .str x
  | _, _, .ty n => .ty n
  | _, _, .adr a => .adr a
  | _, _, .tup h t => .tup (sqT_ex e h) (IsAll.mono e t)
  | _, _, .lst h t => .lst (sqL_ex e h) (IsAll.mono e t)
  | _, _, .ins h n t => .ins (e _ _ h) n (IsAll.mono e t)
theorem IsAll.mono (e : Ex H H') : ∀ {vs : List V} {l : List D}, IsAll K H vs l → IsAll K H' vs l
  | _, _, .nil => .nil
  | _, _, .cons h t => .cons (Is.mono e h) (IsAll.mono e t)
end
/-! data without a list: nothing of it can change -/
mutual
def D.im : D → Bool
  | .lst _ => false
  | .tup l => imAll l
  | .ins _ _ l => imAll l
  | _ => true
def imAll : List D → Bool
  | [] => true
  | d :: l => d.im && imAll l
end
theorem imAll_iff : ∀ {l : List D}, imAll l = true ↔ ∀ d ∈ l, d.im = true
  | [] => by simp [imAll]
  | d :: l => by simp [imAll, imAll_iff (l := l)]
/-- the addresses that may change hold lists -/
def Lsts (P : List Addr) (H : Hp) : Prop := ∀ p ∈ P, ∃ xs, H p = some (.lst xs)
theorem lsts_rd {P : List Addr} {a : Addr} {u : HO} (hP : Lsts P H) (hu : ∀ xs, u ≠ .lst xs) (h : Rd H a u) : Rd (hid P H) a u := by
  have na : ∀ {o : HO}, (∀ xs, o ≠ .lst xs) → H a = some o → a ∉ P := fun {o} ho e m => by
    obtain ⟨xs, q⟩ := hP a m
    rw [e] at q
    exact ho xs (Option.some.inj q)
  rcases h with h | ⟨o, h⟩
  · exact .inl (by rw [hid_at (na hu h)]; exact h)
  · exact .inr ⟨o, by rw [hid_at (na (fun xs z => by cases z) h)]; exact h⟩
mutual
theorem Is.clean {P : List Addr} (hP : Lsts P H) : ∀ {v : V} {d : D}, Is K H v d → d.im = true → Is K (hid P H) v d
  | _, _, .non, _ => .non
  | _, _, .bl b, _ => .bl b
  | _, _, .int i, _ => .int i
  | _, _, .str x, _ => .str x
  | _, _, .ty n, _ => .ty n
  | _, _, .adr a, _ => .adr a
  | _, _, .tup h t, im => .tup (h.elim (fun h => .inl (lsts_rd hP (fun xs z => by cases z) h)) .inr) (IsAll.clean hP t (by simpa [D.im] using im))
  | _, _, .lst h t, im => by simp [D.im] at im
  | _, _, .ins (a := a) h n t, im => .ins (by
      rw [hid_at fun m => by
        obtain ⟨xs, q⟩ := hP a m
        rw [h] at q
        cases q]
      exact h) n (IsAll.clean hP t (by simpa [D.im] using im))
theorem IsAll.clean {P : List Addr} (hP : Lsts P H) : ∀ {vs : List V} {l : List D}, IsAll K H vs l → imAll l = true → IsAll K (hid P H) vs l
  | _, _, .nil, _ => .nil
  | _, _, .cons h t, im => .cons (Is.clean hP h (by simp [imAll] at im; exact im.1)) (IsAll.clean hP t (by simp [imAll] at im; exact im.2))
end
theorem IsAll.length : ∀ {vs : List V} {l : List D}, IsAll K H vs l → vs.length = l.length
  | _, _, .nil => rfl
  | _, _, .cons _ t => by simp [IsAll.length t]
theorem IsAll.get : ∀ {vs : List V} {l : List D} {i : Nat} {v : V}, IsAll K H vs l → vs[i]? = some v → ∃ d, l[i]? = some d ∧ Is K H v d
  | _, _, i, v, .nil, e => by simp at e
  | _, _, 0, v, .cons h t, e => by simp at e; subst e; exact ⟨_, rfl, h⟩
  | _, _, i + 1, v, .cons h t, e => by
    obtain ⟨d, h1, h2⟩ := IsAll.get t (i := i) (v := v) (by simpa using e)
    exact ⟨d, by simpa using h1, h2⟩
theorem IsAll.getD : ∀ {vs : List V} {l : List D} {i : Nat} {d : D}, IsAll K H vs l → l[i]? = some d → ∃ v, vs[i]? = some v ∧ Is K H v d
  | _, _, i, d, .nil, e => by simp at e
  | _, _, 0, d, .cons h t, e => by simp at e; subst e; exact ⟨_, rfl, h⟩
  | _, _, i + 1, d, .cons h t, e => by
    obtain ⟨v, h1, h2⟩ := IsAll.getD t (i := i) (d := d) (by simpa using e)
    exact ⟨v, by simpa using h1, h2⟩
theorem IsAll.append : ∀ {vs us : List V} {l m : List D}, IsAll K H vs l → IsAll K H us m → IsAll K H (vs ++ us) (l ++ m)
  | _, _, _, _, .nil, q => q
  | _, _, _, _, .cons h t, q => .cons h (IsAll.append t q)
theorem IsAll.one {v : V} {d : D} (h : Is K H v d) : IsAll K H [v] [d] := .cons h .nil
theorem IsAll.rev {vs : List V} {l : List D} (h : IsAll K H vs l) : IsAll K H vs.reverse l.reverse := by
  induction vs generalizing l with
  | nil => cases h; exact .nil
  | cons v vs ih =>
    cases h with
    | cons h t =>
      rw [List.reverse_cons, List.reverse_cons]
      exact (ih t).append (.one h)
theorem IsAll.take : ∀ {vs : List V} {l : List D} (n : Nat), IsAll K H vs l → IsAll K H (vs.take n) (l.take n)
  | _, _, 0, _ => .nil
  | _, _, _ + 1, .nil => .nil
  | _, _, n + 1, .cons h t => .cons h (IsAll.take n t)
theorem IsAll.drop : ∀ {vs : List V} {l : List D} (n : Nat), IsAll K H vs l → IsAll K H (vs.drop n) (l.drop n)
  | _, _, 0, h => h
  | _, _, _ + 1, .nil => .nil
  | _, _, n + 1, .cons _ t => IsAll.drop n t
theorem IsAll.dropLast {vs : List V} {l : List D} (h : IsAll K H vs l) : IsAll K H vs.dropLast l.dropLast := by
  rw [List.dropLast_eq_take, List.dropLast_eq_take, h.length]
  exact h.take _
/-- ints -/
theorem IsAll.ints : ∀ {vs : List V} {ns : List Int}, IsAll K H vs (ns.map D.int) → vs = ns.map V.int
  | _, [], .nil => rfl
  | _, n :: ns, .cons h t => by
    cases h
    rw [IsAll.ints t]
    rfl
theorem isAll_ints : ∀ (ns : List Int), IsAll K H (ns.map V.int) (ns.map D.int)
  | [] => .nil
  | n :: ns => .cons (.int n) (isAll_ints ns)
theorem Is.int_inv {v : V} {i : Int} (h : Is K H v (.int i)) : v = .int i := by cases h; rfl
theorem Is.bl_inv {v : V} {b : Bool} (h : Is K H v (.bl b)) : v = .bl b := by cases h; rfl
theorem Is.tup_inv {v : V} {l : List D} (h : Is K H v (.tup l)) : ∃ a xs, v = .ref a ∧ SqT K H a xs ∧ IsAll K H xs l := by
  cases h with
  | tup h t => exact ⟨_, _, rfl, h, t⟩
theorem Is.lst_inv {v : V} {l : List D} (h : Is K H v (.lst l)) : ∃ a xs, v = .ref a ∧ SqL K H a xs ∧ IsAll K H xs l := by
  cases h with
  | lst h t => exact ⟨_, _, rfl, h, t⟩
theorem Is.ins_inv {v : V} {C : Addr} {ns : List Str} {l : List D} (h : Is K H v (.ins C ns l)) : ∃ a dx fs, v = .ref a ∧ H a = some (.ins C dx fs) ∧ fs.map (·.1) = ns ∧ IsAll K H (fs.map (·.2)) l := by
  cases h with
  | ins h n t => exact ⟨_, _, _, rfl, h, n, t⟩
end

/-! ### the state as data -/
inductive Slot where
  | no | val (d : D) | own (p : Addr) (l : List D)
def ows : List Slot → List Addr
  | [] => []
  | .own p _ :: E => p :: ows E
  | .no :: E => ows E
  | .val _ :: E => ows E
theorem mem_ows : ∀ {E : List Slot} {p : Addr}, p ∈ ows E ↔ ∃ (i : Nat) (l : List D), E[i]? = some (.own p l)
  | [], p => by simp [ows]
  | .own q m :: E, p => by
    rw [show ows (.own q m :: E) = q :: ows E from rfl, List.mem_cons, mem_ows (E := E)]
    constructor
    · rintro (rfl | ⟨i, l, h⟩)
      · exact ⟨0, m, rfl⟩
      · exact ⟨i + 1, l, by simpa using h⟩
    · rintro ⟨i, l, h⟩
      cases i with
      | zero => simp at h; exact .inl h.1.symm
      | succ i => exact .inr ⟨i, l, by simpa using h⟩
  | .no :: E, p => by
    rw [show ows (.no :: E) = ows E from rfl, mem_ows (E := E)]
    constructor
    · rintro ⟨i, l, h⟩; exact ⟨i + 1, l, by simpa using h⟩
    · rintro ⟨i, l, h⟩
      cases i with
      | zero => simp at h
      | succ i => exact ⟨i, l, by simpa using h⟩
  | .val d :: E, p => by
    rw [show ows (.val d :: E) = ows E from rfl, mem_ows (E := E)]
    constructor
    · rintro ⟨i, l, h⟩; exact ⟨i + 1, l, by simpa using h⟩
    · rintro ⟨i, l, h⟩
      cases i with
      | zero => simp at h
      | succ i => exact ⟨i, l, by simpa using h⟩

/-- the state as data: K the written part; B what the def may change of its caller's; H0 the heap at its entry; Z values held besides -/
structure Env (K : PySem.W.Frag) (B : List Addr) (H0 : Hp) (Z : Hp → Prop) (E : List Slot) (σ : L2.St) (H : Hp) : Prop where
  ex : ∀ a o, a ∉ B → H0 a = some o → H a = some o
  inj : ∀ (i j : Nat) (p : Addr) (l m : List D), E[i]? = some (.own p l) → E[j]? = some (.own p m) → i = j
  fr : ∀ (i : Nat) (p : Addr) (l : List D), E[i]? = some (.own p l) → p ∈ B ∨ H0 p = none
  len : σ.length = E.length
  val : ∀ (i : Nat) (d : D), E[i]? = some (.val d) → ∃ v, σ[i]? = some (some v) ∧ Is K (hid (ows E) H) v d
  own : ∀ (i : Nat) (p : Addr) (l : List D), E[i]? = some (.own p l) → σ[i]? = some (some (.ref p)) ∧ ∃ vs, H p = some (.lst vs) ∧ IsAll K (hid (ows E) H) vs l
  pin : Z (hid (ows E) H)
  zm : ∀ {H H' : Hp}, Ex H H' → Z H → Z H'

section
variable {K : PySem.W.Frag} {B : List Addr} {H0 : Hp} {Z : Hp → Prop} {E : List Slot} {σ : L2.St} {H H' : Hp}
theorem Env.lsts (e : Env K B H0 Z E σ H) : Lsts (ows E) H := fun p hp => by
  obtain ⟨i, l, h⟩ := mem_ows.mp hp
  obtain ⟨_, vs, h2, _⟩ := e.own i p l h
  exact ⟨vs, h2⟩
theorem Env.ext (e : Env K B H0 Z E σ H) (x : Ex H H') : Env K B H0 Z E σ H' where
  ex a o h q := x a o (e.ex a o h q)
  inj := e.inj
  fr := e.fr
  len := e.len
  val i d h := let ⟨v, a, b⟩ := e.val i d h; ⟨v, a, b.mono (hid_ex x)⟩
  own i p l h := let ⟨a, vs, b, c⟩ := e.own i p l h; ⟨a, vs, x _ _ b, c.mono (hid_ex x)⟩
  pin := e.zm (hid_ex x) e.pin
  zm := e.zm
/-- a value held besides -/
theorem Env.hold {v : V} {d : D} (e : Env K B H0 Z E σ H) (h : Is K H v d) (im : d.im = true) : Env K B H0 (fun H => Z H ∧ Is K H v d) E σ H :=
  ⟨e.ex, e.inj, e.fr, e.len, e.val, e.own, ⟨e.pin, h.clean e.lsts im⟩, fun x q => ⟨e.zm x q.1, q.2.mono x⟩⟩
theorem Env.drop {Y : Hp → Prop} (e : Env K B H0 (fun H => Z H ∧ Y H) E σ H) (zm : ∀ {H H' : Hp}, Ex H H' → Z H → Z H') : Env K B H0 Z E σ H := ⟨e.ex, e.inj, e.fr, e.len, e.val, e.own, e.pin.1, zm⟩
theorem set_get {E : List Slot} {i j : Nat} {s t : Slot} (h : (E.set i s)[j]? = some t) : (i = j ∧ s = t ∧ i < E.length) ∨ (i ≠ j ∧ E[j]? = some t) := by
  rw [List.getElem?_set] at h
  by_cases hij : i = j
  · rw [if_pos hij] at h
    by_cases hlt : i < E.length
    · rw [if_pos hlt] at h
      exact .inl ⟨hij, Option.some.inj h, hlt⟩
    · rw [if_neg hlt] at h
      cases h
  · rw [if_neg hij] at h
    exact .inr ⟨hij, h⟩
theorem ows_sub {i : Nat} {s : Slot} (hs : ∀ p l, s ≠ .own p l) : ∀ a ∈ ows (E.set i s), a ∈ ows E := fun a ha => by
  obtain ⟨j, l, h⟩ := mem_ows.mp ha
  rcases set_get h with ⟨_, q, _⟩ | ⟨_, q⟩
  · exact absurd q (hs a l)
  · exact mem_ows.mpr ⟨j, l, q⟩
/-- a slot gets a value -/
theorem Env.setC {i : Nat} {v : V} {d : D} (e : Env K B H0 Z E σ H) (h : Is K (hid (ows E) H) v d) : Env K B H0 Z (E.set i (.val d)) (σ.set i (some v)) H := by
  have sb : Ex (hid (ows E) H) (hid (ows (E.set i (.val d))) H) := hid_sub (ows_sub fun p l z => by cases z)
  have old : ∀ {j : Nat} {p : Addr} {l : List D}, (E.set i (.val d))[j]? = some (.own p l) → i ≠ j ∧ E[j]? = some (.own p l) := fun {j p l} q => by
    rcases set_get q with ⟨_, z, _⟩ | z
    · cases z
    · exact z
  refine ⟨e.ex, fun a b p l m h1 h2 => e.inj a b p l m (old h1).2 (old h2).2, fun a p l h1 => e.fr a p l (old h1).2, by simp [e.len], fun j d' q => ?_, fun j p l q => ?_, e.zm sb e.pin, e.zm⟩
  · rcases set_get q with ⟨hij, hd, hlt⟩ | ⟨hij, q⟩
    · cases hd
      subst hij
      exact ⟨v, by rw [List.getElem?_set_self (by rw [e.len]; exact hlt)], h.mono sb⟩
    · obtain ⟨w, q1, q2⟩ := e.val j d' q
      exact ⟨w, by rw [List.getElem?_set_ne hij]; exact q1, q2.mono sb⟩
  · obtain ⟨hij, q'⟩ := old q
    obtain ⟨q1, vs, q2, q3⟩ := e.own j p l q'
    exact ⟨by rw [List.getElem?_set_ne hij]; exact q1, vs, q2, q3.mono sb⟩
theorem Env.set {i : Nat} {v : V} {d : D} (e : Env K B H0 Z E σ H) (h : Is K H v d) (im : d.im = true) : Env K B H0 Z (E.set i (.val d)) (σ.set i (some v)) H := e.setC (h.clean e.lsts im)
/-- a slot gets a new list -/
theorem Env.setO {i : Nat} {p : Addr} {vs : List V} {l : List D} {Hb : Hp} (e : Env K B H0 Z E σ Hb) (x : Ex Hb H) (hp : Hb p = none) (hH : H p = some (.lst vs)) (h : IsAll K H vs l) (im : imAll l = true) (h0 : p ∉ B → H0 p = none := by assumption) :
    Env K B H0 Z (E.set i (.own p l)) (σ.set i (some (.ref p))) H := by
  have np : ∀ a ∈ ows E, a ≠ p := fun a ha z => by
    obtain ⟨xs, q⟩ := e.lsts a ha
    rw [z, hp] at q
    cases q
  have sb : Ex (hid (ows E) Hb) (hid (ows (E.set i (.own p l))) H) := fun a o q => by
    obtain ⟨q1, q2⟩ := hid_some q
    rw [hid_at]
    · exact x a o q2
    · intro m
      obtain ⟨j, l', hj⟩ := mem_ows.mp m
      rcases set_get hj with ⟨_, z, _⟩ | ⟨_, z⟩
      · injection z with z1 z2
        rw [← z1, hp] at q2
        cases q2
      · exact q1 (mem_ows.mpr ⟨j, l', z⟩)
  have e' := e.ext x
  have lsH : Lsts (ows (E.set i (.own p l))) H := fun a ha => by
    obtain ⟨j, l', hj⟩ := mem_ows.mp ha
    rcases set_get hj with ⟨_, z, _⟩ | ⟨_, z⟩
    · injection z with z1 z2
      exact ⟨vs, by rw [← z1]; exact hH⟩
    · exact e'.lsts a (mem_ows.mpr ⟨j, l', z⟩)
  have hp0 : p ∈ B ∨ H0 p = none := by
    by_cases hb : p ∈ B
    · exact .inl hb
    · exact .inr (h0 hb)
  have cases' : ∀ {j : Nat} {q : Addr} {m : List D}, (E.set i (.own p l))[j]? = some (.own q m) → (i = j ∧ p = q ∧ l = m ∧ i < E.length) ∨ (i ≠ j ∧ E[j]? = some (.own q m)) := fun {j q m} hj => by
    rcases set_get hj with ⟨h1, z, h2⟩ | z
    · injection z with z1 z2
      exact .inl ⟨h1, z1, z2, h2⟩
    · exact .inr z
  refine ⟨e'.ex, fun a b q m n h1 h2 => ?_, fun a q m h1 => ?_, by simp [e.len], fun j d' q => ?_, fun j q m hj => ?_, e.zm sb e.pin, e.zm⟩
  · rcases cases' h1 with ⟨r1, r2, _, _⟩ | ⟨r1, r2⟩ <;> rcases cases' h2 with ⟨s1, s2, _, _⟩ | ⟨s1, s2⟩
    · rw [← r1, ← s1]
    · exact absurd r2.symm (np q (mem_ows.mpr ⟨b, n, s2⟩))
    · exact absurd s2.symm (np q (mem_ows.mpr ⟨a, m, r2⟩))
    · exact e.inj a b q m n r2 s2
  · rcases cases' h1 with ⟨_, r2, _, _⟩ | ⟨_, r2⟩
    · rw [← r2]; exact hp0
    · exact e.fr a q m r2
  · rcases set_get q with ⟨_, z, _⟩ | ⟨hij, q⟩
    · cases z
    · obtain ⟨w, q1, q2⟩ := e.val j d' q
      exact ⟨w, by rw [List.getElem?_set_ne hij]; exact q1, q2.mono sb⟩
  · rcases cases' hj with ⟨r1, r2, r3, r4⟩ | ⟨r1, r2⟩
    · subst r1 r2 r3
      exact ⟨by rw [List.getElem?_set_self (by rw [e.len]; exact r4)], vs, hH, h.clean lsH im⟩
    · obtain ⟨q1, ws, q2, q3⟩ := e.own j q m r2
      exact ⟨by rw [List.getElem?_set_ne r1]; exact q1, ws, x _ _ q2, q3.mono sb⟩
/-- an owned list changes -/
theorem Env.chg {i : Nat} {p : Addr} {l l' : List D} {vs' : List V} (e : Env K B H0 Z E σ H) (hi : E[i]? = some (.own p l)) (h : IsAll K (hid (ows E) H) vs' l') :
    Env K B H0 Z (E.set i (.own p l')) σ (upd H p (.lst vs')) := by
  have hlt : i < E.length := (List.getElem?_eq_some_iff.mp hi).1
  have ho : ∀ a, a ∈ ows (E.set i (.own p l')) ↔ a ∈ ows E := fun a => by
    rw [mem_ows, mem_ows]
    constructor
    · rintro ⟨j, m, hj⟩
      rcases set_get hj with ⟨_, z, _⟩ | ⟨_, z⟩
      · injection z with z1 z2
        exact ⟨i, l, by rw [← z1]; exact hi⟩
      · exact ⟨j, m, z⟩
    · rintro ⟨j, m, hj⟩
      by_cases hij : i = j
      · subst hij
        rw [hi] at hj
        injection (Option.some.inj hj) with z1 z2
        exact ⟨i, l', by rw [List.getElem?_set_self hlt, z1]⟩
      · exact ⟨j, m, by rw [List.getElem?_set_ne hij]; exact hj⟩
  have sb : Ex (hid (ows E) H) (hid (ows (E.set i (.own p l'))) (upd H p (.lst vs'))) := fun a o q => by
    obtain ⟨q1, q2⟩ := hid_some q
    have hap : a ≠ p := fun z => q1 (by rw [z]; exact mem_ows.mpr ⟨i, l, hi⟩)
    rw [hid_at (fun m => q1 ((ho a).mp m)), upd_ne hap]
    exact q2
  have cases' : ∀ {j : Nat} {q : Addr} {m : List D}, (E.set i (.own p l'))[j]? = some (.own q m) → (i = j ∧ p = q ∧ l' = m) ∨ (i ≠ j ∧ E[j]? = some (.own q m)) := fun {j q m} hj => by
    rcases set_get hj with ⟨h1, z, h2⟩ | z
    · injection z with z1 z2
      exact .inl ⟨h1, z1, z2⟩
    · exact .inr z
  refine ⟨fun a o hb q => ?_, fun a b q m n h1 h2 => ?_, fun a q m h1 => ?_, by simp [e.len], fun j d' q => ?_, fun j q m hj => ?_, e.zm sb e.pin, e.zm⟩
  · have hap : a ≠ p := fun z => by
      rcases e.fr i p l hi with w | w
      · exact hb (by rw [z]; exact w)
      · rw [z, w] at q; cases q
    rw [upd_ne hap]
    exact e.ex a o hb q
  · rcases cases' h1 with ⟨r1, r2, _⟩ | ⟨r1, r2⟩ <;> rcases cases' h2 with ⟨s1, s2, _⟩ | ⟨s1, s2⟩
    · rw [← r1, ← s1]
    · exact e.inj a b q l n (by rw [← r1, ← r2]; exact hi) s2
    · exact e.inj a b q m l r2 (by rw [← s1, ← s2]; exact hi)
    · exact e.inj a b q m n r2 s2
  · rcases cases' h1 with ⟨_, r2, _⟩ | ⟨_, r2⟩
    · rw [← r2]; exact e.fr i p l hi
    · exact e.fr a q m r2
  · rcases set_get q with ⟨_, z, _⟩ | ⟨hij, q⟩
    · cases z
    · obtain ⟨w, q1, q2⟩ := e.val j d' q
      exact ⟨w, q1, q2.mono sb⟩
  · rcases cases' hj with ⟨r1, r2, r3⟩ | ⟨r1, r2⟩
    · subst r1 r2 r3
      exact ⟨(e.own i p l hi).1, vs', upd_same, h.mono sb⟩
    · obtain ⟨q1, ws, q2, q3⟩ := e.own j q m r2
      have hqp : q ≠ p := fun z => r1 (e.inj i j p l m hi (by rw [← z]; exact r2))
      exact ⟨q1, ws, by rw [upd_ne hqp]; exact q2, q3.mono sb⟩
end
end Y
set_option Elab.async false
set_option linter.all false
set_option autoImplicit false
set_option maxRecDepth 100000
/-! What expressions, tests and statements give, as data. -/
namespace Y
open PySem L2

section
variable (K : PySem.W.Frag) (B : List Addr) (H0 : Hp) (Z : Hp → Prop)
/-- an expression gives d, making at most new things -/
def EP (te : TE) (E : List Slot) (d : D) : Prop := ∀ σ H, Env K B H0 Z E σ H → ∀ Q : VK, (∀ v H', Ex H H' → Is K H' v d → Q v H') → te σ H Q
/-- .. a new list -/
def EF (te : TE) (E : List Slot) (l : List D) : Prop := ∀ σ H, Env K B H0 Z E σ H → ∀ Q : VK, (∀ p vs H', H p = none → Ex H H' → H' p = some (.lst vs) → IsAll K H' vs l → Q (.ref p) H') → te σ H Q
def ET (t : TT) (E : List Slot) (b : Bool) : Prop := ∀ σ H, Env K B H0 Z E σ H → ∀ Q : Bool → Hp → Prop, (∀ H', Ex H H' → Q b H') → t σ H Q
def EA (ta : TA) (E : List Slot) (l : List D) : Prop := ∀ σ H, Env K B H0 Z E σ H → ∀ Q : List V → Hp → Prop, (∀ vs H', Ex H H' → IsAll K H' vs l → Q vs H') → ta σ H Q
/-- a statement runs well from E -/
def SD (t : TS) (D : Ends) (E : List Slot) : Prop := ∀ σ H, Env K B H0 Z E σ H → t D σ H
/-- d may be handed back -/
def RT (D : Ends) (d : Y.D) : Prop := ∀ v H, (∀ a o, a ∉ B → H0 a = some o → H a = some o) → Is K H v d → D.rt v H
end
section
variable (K : PySem.W.Frag)
/-- an operation of two values -/
def R2d (r : R2) (x y z : D) : Prop := ∀ vx vy H, Is K H vx x → Is K H vy y → ∀ Q : VK, (∀ v H', Ex H H' → Is K H' v z → Q v H') → r vx vy H Q
def R1d (r : V → Hp → VK → Prop) (x z : D) : Prop := ∀ vx H, Is K H vx x → ∀ Q : VK, (∀ v H', Ex H H' → Is K H' v z → Q v H') → r vx H Q
def RCd (r : List V → Hp → VK → Prop) (l : List D) (z : D) : Prop := ∀ vs H, IsAll K H vs l → ∀ Q : VK, (∀ v H', Ex H H' → Is K H' v z → Q v H') → r vs H Q
def RCf (r : List V → Hp → VK → Prop) (l : List D) (m : List D) : Prop := ∀ vs H, IsAll K H vs l → ∀ Q : VK, (∀ p ws H', H p = none → Ex H H' → H' p = some (.lst ws) → IsAll K H' ws m → Q (.ref p) H') → r vs H Q
def R2f (r : R2) (x y : D) (m : List D) : Prop := ∀ vx vy H, Is K H vx x → Is K H vy y → ∀ Q : VK, (∀ p ws H', H p = none → Ex H H' → H' p = some (.lst ws) → IsAll K H' ws m → Q (.ref p) H') → r vx vy H Q
end

section
variable {K : PySem.W.Frag} {B : List Addr} {H0 : Hp} {Z : Hp → Prop} {E : List Slot} {ta tb tc te : TE} {t u : TT} {ea : TA} {x y z d : D} {l m : List D} {b c : Bool}
theorem EF.p (h : EF K B H0 Z te E l) : EP K B H0 Z te E (.lst l) := fun σ H e Q q => h σ H e Q fun p vs H' _ x h1 h2 => q _ _ x (.lst (SqL.of h1) h2)
theorem ep_var {i : Nat} (h : E[i]? = some (.val d)) : EP K B H0 Z (tVar i) E d := fun σ H e Q q => by
  obtain ⟨v, h1, h2⟩ := e.val i d h
  exact ⟨v, h1, q v H (Ex.refl H) (h2.mono (hid_le _ _))⟩
theorem ep_own {i : Nat} {p : Addr} (h : E[i]? = some (.own p l)) : EP K B H0 Z (tVar i) E (.lst l) := fun σ H e Q q => by
  obtain ⟨h1, vs, h2, h3⟩ := e.own i p l h
  exact ⟨_, h1, q _ H (Ex.refl H) (.lst (SqL.of h2) (h3.mono (hid_le _ _)))⟩
theorem ep_int {i : Int} : EP K B H0 Z (tC (.int i)) E (.int i) := fun σ H _ Q q => q _ H (Ex.refl H) (.int i)
theorem ep_bl {b : Bool} : EP K B H0 Z (tC (.bl b)) E (.bl b) := fun σ H _ Q q => q _ H (Ex.refl H) (.bl b)
theorem ep_str {s : Str} : EP K B H0 Z (tC (.str s)) E (.str s) := fun σ H _ Q q => q _ H (Ex.refl H) (.str s)
theorem ep_non : EP K B H0 Z (tC .non) E .non := fun σ H _ Q q => q _ H (Ex.refl H) .non
theorem ep_ty {n : String} : EP K B H0 Z (tC (.ty n)) E (.ty n) := fun σ H _ Q q => q _ H (Ex.refl H) (.ty n)
theorem ep_is {d' : D} (h : EP K B H0 Z te E d) (e : d = d') : EP K B H0 Z te E d' := e ▸ h
theorem ep_op {r : R2} (ha : EP K B H0 Z ta E x) (hb : EP K B H0 Z tb E y) (hr : R2d K r x y z) : EP K B H0 Z (tOp r ta tb) E z := fun σ H e Q q =>
  ha σ H e _ fun vx H1 e1 h1 => hb σ H1 (e.ext e1) _ fun vy H2 e2 h2 => hr vx vy H2 (h1.mono e2) h2 Q fun v H3 e3 h3 => q v H3 ((e1.trans e2).trans e3) h3
theorem ef_op {r : R2} (ha : EP K B H0 Z ta E x) (hb : EP K B H0 Z tb E y) (hr : R2f K r x y m) : EF K B H0 Z (tOp r ta tb) E m := fun σ H e Q q =>
  ha σ H e _ fun vx H1 e1 h1 => hb σ H1 (e.ext e1) _ fun vy H2 e2 h2 => hr vx vy H2 (h1.mono e2) h2 Q fun p ws H3 np e3 hp h3 => q p ws H3 ((e1.trans e2).back np) ((e1.trans e2).trans e3) hp h3
theorem ep_un {r : V → Hp → VK → Prop} (ha : EP K B H0 Z ta E x) (hr : R1d K r x z) : EP K B H0 Z (tUn r ta) E z := fun σ H e Q q =>
  ha σ H e _ fun vx H1 e1 h1 => hr vx H1 h1 Q fun v H3 e3 h3 => q v H3 (e1.trans e3) h3
theorem ea_nil : EA K B H0 Z tNil E [] := fun σ H _ Q q => q [] H (Ex.refl H) .nil
theorem ea_cons {tr : TA} (h : EP K B H0 Z te E d) (hr : EA K B H0 Z tr E l) : EA K B H0 Z (tCons te tr) E (d :: l) := fun σ H e Q q =>
  h σ H e _ fun v H1 e1 h1 => hr σ H1 (e.ext e1) _ fun vs H2 e2 h2 => q _ H2 (e1.trans e2) (.cons (h1.mono e2) h2)
theorem ep_cb {r : List V → Hp → VK → Prop} (h : EA K B H0 Z ea E l) (hr : RCd K r l z) : EP K B H0 Z (tCB r ea) E z := fun σ H e Q q =>
  h σ H e _ fun vs H1 e1 h1 => hr vs H1 h1 Q fun v H2 e2 h2 => q v H2 (e1.trans e2) h2
theorem ef_cb {r : List V → Hp → VK → Prop} (h : EA K B H0 Z ea E l) (hr : RCf K r l m) : EF K B H0 Z (tCB r ea) E m := fun σ H e Q q =>
  h σ H e _ fun vs H1 e1 h1 => hr vs H1 h1 Q fun p ws H2 np e2 hp h2 => q p ws H2 (e1.back np) (e1.trans e2) hp h2
theorem ep_tup (h : EA K B H0 Z ea E l) (hl : l.length ≤ 100000 := by simp) : EP K B H0 Z (tTup ea) E (.tup l) := fun σ H e Q q =>
  h σ H e _ fun vs H1 e1 h1 => ⟨by rw [h1.length, sizeLine_eq]; omega, fun p np => q _ _ (e1.trans (Ex.new np)) (.tup (SqT.of upd_same) (h1.mono (Ex.new np)))⟩
theorem ef_lst (h : EA K B H0 Z ea E l) (hl : l.length ≤ 100000 := by simp) : EF K B H0 Z (tLst ea) E l := fun σ H e Q q =>
  h σ H e _ fun vs H1 e1 h1 => ⟨by rw [h1.length, sizeLine_eq]; omega, fun p np => q p vs _ (e1.back np) (e1.trans (Ex.new np)) upd_same (h1.mono (Ex.new np))⟩

/-! ### tests -/
theorem et_test (h : EP K B H0 Z te E (.bl b)) : ET K B H0 Z (tTest te) E b := fun σ H e Q q => h σ H e _ fun v H1 e1 h1 => by
  cases h1
  exact ⟨b, rfl, q H1 e1⟩
theorem et_B (h : EP K B H0 Z te E (.bl b)) : ET K B H0 Z (tB te) E b := fun σ H e Q q => h σ H e _ fun v H1 e1 h1 => by
  cases h1
  exact ⟨b, rfl, q H1 e1⟩
theorem et_is (h : ET K B H0 Z t E b) (e : b = c) : ET K B H0 Z t E c := e ▸ h
theorem et_and (h1 : ET K B H0 Z t E b) (h2 : b = true → ET K B H0 Z u E c) : ET K B H0 Z (tAnd t u) E (b && c) := fun σ H e Q q => h1 σ H e _ fun H1 e1 => by
  cases b with
  | true => exact h2 rfl σ H1 (e.ext e1) Q fun H2 e2 => q H2 (e1.trans e2)
  | false => exact q H1 e1
theorem et_or (h1 : ET K B H0 Z t E b) (h2 : b = false → ET K B H0 Z u E c) : ET K B H0 Z (tOr t u) E (b || c) := fun σ H e Q q => h1 σ H e _ fun H1 e1 => by
  cases b with
  | true => exact q H1 e1
  | false => exact h2 rfl σ H1 (e.ext e1) Q fun H2 e2 => q H2 (e1.trans e2)
theorem et_not (h1 : ET K B H0 Z t E b) : ET K B H0 Z (tNot t) E (!b) := fun σ H e Q q => h1 σ H e _ fun H1 e1 => q H1 e1
theorem et_yes : ET K B H0 Z tYes E true := fun σ H _ Q q => q H (Ex.refl H)
theorem ep_andV (h1 : EP K B H0 Z ta E (.bl b)) (h2 : b = true → EP K B H0 Z tb E (.bl c)) : EP K B H0 Z (tAndV ta tb) E (.bl (b && c)) := fun σ H e Q q => h1 σ H e _ fun v H1 e1 h1 => by
  cases h1
  refine ⟨b, rfl, ?_⟩
  cases b with
  | true => exact h2 rfl σ H1 (e.ext e1) Q fun v H2 e2 h => q v H2 (e1.trans e2) h
  | false => exact q _ H1 e1 (.bl _)
theorem ep_orV (h1 : EP K B H0 Z ta E (.bl b)) (h2 : b = false → EP K B H0 Z tb E (.bl c)) : EP K B H0 Z (tOrV ta tb) E (.bl (b || c)) := fun σ H e Q q => h1 σ H e _ fun v H1 e1 h1 => by
  cases h1
  refine ⟨b, rfl, ?_⟩
  cases b with
  | true => exact q _ H1 e1 (.bl _)
  | false => exact h2 rfl σ H1 (e.ext e1) Q fun v H2 e2 h => q v H2 (e1.trans e2) h
theorem ep_notV (h1 : EP K B H0 Z ta E (.bl b)) : EP K B H0 Z (tNotV ta) E (.bl (!b)) := fun σ H e Q q => h1 σ H e _ fun v H1 e1 h1 => by
  cases h1
  exact ⟨b, rfl, q _ H1 e1 (.bl _)⟩
theorem ep_if (h : ET K B H0 Z t E b) (h1 : b = true → EP K B H0 Z ta E d) (h2 : b = false → EP K B H0 Z tb E d) : EP K B H0 Z (tIf t ta tb) E d := fun σ H e Q q => h σ H e _ fun H1 e1 => by
  cases b with
  | true => exact h1 rfl σ H1 (e.ext e1) Q fun v H2 e2 h => q v H2 (e1.trans e2) h
  | false => exact h2 rfl σ H1 (e.ext e1) Q fun v H2 e2 h => q v H2 (e1.trans e2) h

/-! ### statements -/
variable {D : Ends} {tx ty tz : TS}
theorem sd_seq (h : SD K B H0 Z tx { D with nx := tz D } E) : SD K B H0 Z (tSeq tx tz) D E := h
theorem sd_go {D' : Ends} (h : SD K B H0 Z tz D E) : SD K B H0 Z tNext { D' with nx := tz D } E := h
theorem sd_nx {E' : List Slot} {bk ct : L2.St → Hp → Prop} {rt : VK} (h : E = E') : SD K B H0 Z tNext { nx := fun σ H => Env K B H0 Z E' σ H, rt := rt, bk := bk, ct := ct } E := fun σ H e => h ▸ e
theorem sd_asg {i : Nat} (h : EP K B H0 Z te E d) (im : d.im = true) (k : SD K B H0 Z tNext D (E.set i (.val d))) : SD K B H0 Z (tAsg te (gName i)) D E := fun σ H e =>
  h σ H e _ fun v H1 e1 h1 => k _ H1 ((e.ext e1).set h1 im)
/-- a new list, to be changed later | never changed -/
theorem sd_asgO {i : Nat} (h : EF K B H0 Z te E l) (im : imAll l = true) (k : ∀ p, SD K B H0 Z tNext D (E.set i (.own p l))) : SD K B H0 Z (tAsg te (gName i)) D E := fun σ H e =>
  h σ H e _ fun p vs H1 np e1 hp h1 => k p _ H1 (e.setO e1 np hp h1 im fun hb => by
    cases q : H0 p with
    | none => rfl
    | some o =>
      have := e.ex p o hb q
      rw [np] at this
      cases this)
theorem sd_asgL {i : Nat} (h : EF K B H0 Z te E l) (im : imAll l = true) (k : SD K B H0 Z tNext D (E.set i (.val (.lst l)))) : SD K B H0 Z (tAsg te (gName i)) D E := fun σ H e =>
  h σ H e _ fun p vs H1 np e1 hp h1 => k _ H1 ((e.ext e1).setC (by
    have hpo : p ∉ ows E := fun m => by
      obtain ⟨xs, q⟩ := e.lsts p m
      rw [np] at q
      cases q
    exact .lst (SqL.of (by rw [hid_at hpo]; exact hp)) (h1.clean (e.ext e1).lsts im)))
theorem sd_drop (h : EP K B H0 Z te E d) (k : SD K B H0 Z tNext D E) : SD K B H0 Z (tDrop te) D E := fun σ H e => h σ H e _ fun v H1 e1 _ => k σ H1 (e.ext e1)
theorem sd_ret (h : EP K B H0 Z te E d) (k : RT K B H0 D d) : SD K B H0 Z (tRet te) D E := fun σ H e => h σ H e _ fun v H1 e1 h1 => k v H1 (e.ext e1).ex h1
theorem sd_retN (k : RT K B H0 D .non) : SD K B H0 Z tRetN D E := fun σ H e => k _ H e.ex .non
/-- a new list is handed back -/
def RTF (K : PySem.W.Frag) (B : List Addr) (H0 : Hp) (D : Ends) (l : List Y.D) : Prop := ∀ p vs H, (p ∉ B → H0 p = none) → (∀ a o, a ∉ B → H0 a = some o → H a = some o) → H p = some (.lst vs) → IsAll K H vs l → D.rt (.ref p) H
theorem sd_retF (h : EF K B H0 Z te E l) (k : RTF K B H0 D l) : SD K B H0 Z (tRet te) D E := fun σ H e => h σ H e _ fun p vs H1 np e1 hp h1 => k p vs H1 (fun hb => by
    cases q : H0 p with
    | none => rfl
    | some o =>
      have := e.ex p o hb q
      rw [np] at this
      cases this) (e.ext e1).ex hp h1
theorem sd_retO {i : Nat} {p : Addr} (h : E[i]? = some (.own p l)) (k : RTF K B H0 D l) : SD K B H0 Z (tRet (tVar i)) D E := fun σ H e => by
  obtain ⟨h1, vs, h2, h3⟩ := e.own i p l h
  exact ⟨_, h1, k p vs H (fun hb => (e.fr i p l h).resolve_left hb) e.ex h2 (h3.mono (hid_le _ _))⟩
theorem sd_if (h : ET K B H0 Z t E b) (h1 : b = true → SD K B H0 Z tx D E) (h2 : b = false → SD K B H0 Z ty D E) : SD K B H0 Z (tIfS t tx ty) D E := fun σ H e => h σ H e _ fun H1 e1 => by
  cases b with
  | true => exact h1 rfl σ H1 (e.ext e1)
  | false => exact h2 rfl σ H1 (e.ext e1)
/-- xs.append(e), xs an owned list -/
theorem sd_app {i : Nat} {p : Addr} (hi : E[i]? = some (.own p l)) (h : EP K B H0 Z te E d) (im : d.im = true) (hz : l.length < 100000) (k : SD K B H0 Z tNext D (E.set i (.own p (l ++ [d])))) :
    SD K B H0 Z (tDrop (tBM K "list" rAppend (tVar i) (tCons te tNil))) D E := fun σ H e => by
  obtain ⟨h1, vs, h2, h3⟩ := e.own i p l hi
  refine ⟨_, h1, .inl ⟨rfl, vs, SqL.of h2⟩, h σ H e _ fun v H1 e1 q => ?_⟩
  have e' := e.ext e1
  obtain ⟨_, ws, g2, g3⟩ := e'.own i p l hi
  have : ws = vs := by
    have := e1 p _ h2
    rw [g2] at this
    injection this with this
    injection this
  subst this
  refine ⟨p, ws, v, rfl, rfl, g2, ?_, k σ _ (e'.chg hi (g3.append (.one (q.clean e'.lsts im))))⟩
  rw [g3.length, sizeLine_eq]
  omega

end
end Y
set_option Elab.async false
set_option linter.all false
set_option autoImplicit false
set_option maxRecDepth 100000
/-! Loops and comprehensions, as data. -/
namespace Y
open PySem L2
section
variable {K : PySem.W.Frag} {B : List Addr} {H0 : Hp} {Z : Hp → Prop} {E : List Slot} {ta tb tc te : TE} {t u : TT} {ea : TA} {x y z d : D} {l m : List D} {b c : Bool}
/-- an expression whose value stands apart from what may change -/
def EC (K : PySem.W.Frag) (B : List Addr) (H0 : Hp) (Z : Hp → Prop) (te : TE) (E : List Slot) (d : D) : Prop :=
  ∀ σ H, Env K B H0 Z E σ H → ∀ Q : VK, (∀ v H', Ex H H' → Is K (hid (ows E) H') v d → Q v H') → te σ H Q
theorem ec_im (h : EP K B H0 Z te E d) (im : d.im = true) : EC K B H0 Z te E d := fun σ H e Q q => h σ H e Q fun v H' x h1 => q v H' x (h1.clean (e.ext x).lsts im)
theorem ec_var {i : Nat} (h : E[i]? = some (.val d)) : EC K B H0 Z (tVar i) E d := fun σ H e Q q => by
  obtain ⟨v, h1, h2⟩ := e.val i d h
  exact ⟨v, h1, q v H (Ex.refl H) h2⟩
theorem ec_new (h : EF K B H0 Z te E l) (im : imAll l = true) : EC K B H0 Z te E (.lst l) := fun σ H e Q q => h σ H e Q fun p vs H1 np e1 hp h1 => q _ H1 e1 (by
  have hpo : p ∉ ows E := fun m => by
    obtain ⟨xs, w⟩ := e.lsts p m
    rw [np] at w
    cases w
  exact .lst (SqL.of (by rw [hid_at hpo]; exact hp)) (h1.clean (e.ext e1).lsts im))

theorem map_at {α : Type} {c : α → Y.D} {ts : List α} {i : Nat} {d : Y.D} (h : (ts.map c)[i]? = some d) : ∃ a, ts[i]? = some a ∧ d = c a := by
  rw [List.getElem?_map] at h
  cases e : ts[i]? with
  | none => rw [e] at h; cases h
  | some a => rw [e] at h; exact ⟨a, rfl, (Option.some.inj h).symm⟩
variable {D : Ends} {tu : TS}
/-- the ends of a loop's body: the next turn's state -/
def LE (K : PySem.W.Frag) (B : List Addr) (H0 : Hp) (Z : Hp → Prop) (D : Ends) (E' : List Slot) : Ends :=
  { nx := fun σ H => Env K B H0 Z E' σ H, rt := D.rt, bk := D.nx, ct := fun σ H => Env K B H0 Z E' σ H }
theorem sd_le {E' : List Slot} (h : E = E') : SD K B H0 Z tNext (LE K B H0 Z D E') E := fun σ H e => h ▸ e
theorem sd_ct {E' : List Slot} (h : E = E') : SD K B H0 Z tCont (LE K B H0 Z D E') E := fun σ H e => h ▸ e
theorem sd_forL {α : Type} {j : Nat} (c : α → Y.D) {ts : List α} (h : EC K B H0 Z te E (.lst (ts.map c))) (Ei : Nat → List Slot) (h0 : E = Ei 0)
    (hs : ∀ (Z' : Hp → Prop) i a, ts[i]? = some a → SD K B H0 Z' tu (LE K B H0 Z' D (Ei (i + 1))) ((Ei i).set j (.val (c a))))
    (hd : SD K B H0 Z tNext D (Ei ts.length)) : SD K B H0 Z (tFor (iList K te) (gName j) tu) D E := fun σ H e =>
  h σ H e _ fun v H1 e1 h1 => by
    have e' := e.ext e1
    cases h1 with
    | lst hq ht =>
      rename_i a xs
      refine ⟨a, rfl, ⟨xs, sqL_ex (hid_le _ _) hq⟩, ?_⟩
      have hl : xs.length = ts.length := by rw [ht.length, List.length_map]
      refine for_list (xs := xs) (fun i σ' H' => Env K B H0 (fun H => Z H ∧ SqL K H a xs ∧ IsAll K H xs (ts.map c)) (Ei i) σ' H') ?_ (fun i σ' H' _ p => sqL_ex (hid_le _ _) p.pin.2.1) ?_ ?_
      · rw [← h0]
        exact ⟨e'.ex, e'.inj, e'.fr, e'.len, e'.val, e'.own, ⟨e'.pin, hq, ht⟩, fun x q => ⟨e.zm x q.1, sqL_ex x q.2.1, q.2.2.mono x⟩⟩
      · intro i x σ' H' hx p
        obtain ⟨d, hd1, hd2⟩ := p.pin.2.2.get hx
        obtain ⟨r, hr, rfl⟩ := map_at hd1
        exact hs _ i r hr _ _ (p.setC hd2)
      · intro σ' H' p
        rw [hl] at p
        exact hd _ _ (p.drop e.zm)
theorem sd_forT {α : Type} {j : Nat} (c : α → Y.D) {ts : List α} (h : EC K B H0 Z te E (.tup (ts.map c))) (Ei : Nat → List Slot) (h0 : E = Ei 0)
    (hs : ∀ (Z' : Hp → Prop) i a, ts[i]? = some a → SD K B H0 Z' tu (LE K B H0 Z' D (Ei (i + 1))) ((Ei i).set j (.val (c a))))
    (hd : SD K B H0 Z tNext D (Ei ts.length)) : SD K B H0 Z (tFor (iTup K te) (gName j) tu) D E := fun σ H e =>
  h σ H e _ fun v H1 e1 h1 => by
    have e' := e.ext e1
    cases h1 with
    | tup hq ht =>
      rename_i a xs
      refine ⟨a, rfl, ⟨xs, sqT_ex (hid_le _ _) hq⟩, ?_⟩
      have hl : xs.length = ts.length := by rw [ht.length, List.length_map]
      refine for_tup (xs := xs) (fun i σ' H' => Env K B H0 (fun H => Z H ∧ SqT K H a xs ∧ IsAll K H xs (ts.map c)) (Ei i) σ' H') ?_ (fun i σ' H' _ p => sqT_ex (hid_le _ _) p.pin.2.1) ?_ ?_
      · rw [← h0]
        exact ⟨e'.ex, e'.inj, e'.fr, e'.len, e'.val, e'.own, ⟨e'.pin, hq, ht⟩, fun x q => ⟨e.zm x q.1, sqT_ex x q.2.1, q.2.2.mono x⟩⟩
      · intro i x σ' H' hx p
        obtain ⟨d, hd1, hd2⟩ := p.pin.2.2.get hx
        obtain ⟨r, hr, rfl⟩ := map_at hd1
        exact hs _ i r hr _ _ (p.setC hd2)
      · intro σ' H' p
        rw [hl] at p
        exact hd _ _ (p.drop e.zm)
theorem sd_forR {j : Nat} {n : Int} (h : EA K B H0 Z ea E [.int n]) (hn : 0 ≤ n ∧ n ≤ 100000) (Ei : Nat → List Slot) (h0 : E = Ei 0)
    (hs : ∀ (i : Nat), (i : Int) < n → SD K B H0 Z tu (LE K B H0 Z D (Ei (i + 1))) ((Ei i).set j (.val (.int i))))
    (hd : SD K B H0 Z tNext D (Ei n.toNat)) : SD K B H0 Z (tFor (iRng1 ea) (gName j) tu) D E := fun σ H e =>
  h σ H e _ fun vs H1 e1 h1 => by
    have e' := e.ext e1
    have : vs = [.int n] := by
      cases h1 with
      | cons a t => cases a; cases t; rfl
    subst this
    refine ⟨n, rfl, by omega, by omega, for_range (lo := 0) (n := n.toNat) (fun i σ' H' => Env K B H0 Z (Ei i) σ' H') (h0 ▸ e') (fun i σ' H' hi p => ?_) (fun σ' H' p => hd _ _ p)⟩
    have e0 : (0 : Int) + (i : Int) = (i : Int) := Int.zero_add _
    show tu _ (σ'.set j (some (.int ((0 : Int) + (i : Int))))) H'
    rw [e0]
    exact hs i (by omega) _ _ (p.set (.int _) rfl)
theorem sd_forR2 {j : Nat} {lo n : Int} (h : EA K B H0 Z ea E [.int lo, .int n]) (hn : -100000 ≤ lo ∧ lo ≤ 100000 ∧ -100000 ≤ n ∧ n ≤ 100000) (Ei : Nat → List Slot) (h0 : E = Ei 0)
    (hs : ∀ (i : Nat), lo + (i : Int) < n → SD K B H0 Z tu (LE K B H0 Z D (Ei (i + 1))) ((Ei i).set j (.val (.int (lo + i)))))
    (hd : SD K B H0 Z tNext D (Ei (n - lo).toNat)) : SD K B H0 Z (tFor (iRng2 ea) (gName j) tu) D E := fun σ H e =>
  h σ H e _ fun vs H1 e1 h1 => by
    have e' := e.ext e1
    have : vs = [.int lo, .int n] := by
      cases h1 with
      | cons a t =>
        cases a
        cases t with
        | cons a t => cases a; cases t; rfl
    subst this
    exact ⟨lo, n, rfl, ⟨by omega, by omega, by omega, by omega⟩, for_range (lo := lo) (n := (n - lo).toNat) (fun i σ' H' => Env K B H0 Z (Ei i) σ' H') (h0 ▸ e') (fun i σ' H' hi p => hs i (by omega) _ _ (p.set (.int _) rfl)) (fun σ' H' p => hd _ _ p)⟩

/-! ### comprehensions -/
theorem Env.setNo {σ : L2.St} {H : Hp} (e : Env K B H0 Z E σ H) (i : Nat) : Env K B H0 Z (E.set i .no) (σ.set i none) H := by
  have sb : Ex (hid (ows E) H) (hid (ows (E.set i .no)) H) := hid_sub (ows_sub fun p l z => by cases z)
  have old : ∀ {j : Nat} {s : Slot}, (E.set i .no)[j]? = some s → s ≠ .no → i ≠ j ∧ E[j]? = some s := fun {j s} q hs => by
    rcases set_get q with ⟨_, z, _⟩ | z
    · exact absurd z.symm hs
    · exact z
  refine ⟨e.ex, fun a b p l m h1 h2 => e.inj a b p l m (old h1 (by simp)).2 (old h2 (by simp)).2, fun a p l h1 => e.fr a p l (old h1 (by simp)).2, by simp [e.len], fun j d' q => ?_, fun j p l q => ?_, e.zm sb e.pin, e.zm⟩
  · obtain ⟨hij, q'⟩ := old q (by simp)
    obtain ⟨w, q1, q2⟩ := e.val j d' q'
    exact ⟨w, by rw [List.getElem?_set_ne hij]; exact q1, q2.mono sb⟩
  · obtain ⟨hij, q'⟩ := old q (by simp)
    obtain ⟨q1, vs, q2, q3⟩ := e.own j p l q'
    exact ⟨by rw [List.getElem?_set_ne hij]; exact q1, vs, q2, q3.mono sb⟩
theorem wipe1 (σ : L2.St) (j : Nat) (x : Option V) : wipe ((wipe σ [j]).set j x) [j] = wipe σ [j] := by
  show ((σ.set j none).set j x).set j none = σ.set j none
  rw [List.set_set, List.set_set]
/-- what a comprehension has made so far -/
structure Lcw (K : PySem.W.Frag) (Hb : Hp) (p : Addr) (l : List Y.D) (H' : Hp) : Prop where
  fr : Hb p = none
  ex : Ex Hb H'
  at_ : ∃ acc, H' p = some (.lst acc) ∧ IsAll K (hid [p] H') acc l
theorem lcw_turn {Hb : Hp} {p : Addr} {l : List Y.D} {H' : Hp} {σ2 : L2.St} {c : Bool} {d : Y.D} (w : Lcw K Hb p l H') (hz : l.length < 100000) (im : c = true → d.im = true)
    (ht : ∀ H3, Ex Hb H3 → ∀ Q : Bool → Hp → Prop, (∀ H', Ex H3 H' → Q c H') → t σ2 H3 Q) (he : c = true → ∀ H3, Ex Hb H3 → ∀ Q : VK, (∀ v H', Ex H3 H' → Is K H' v d → Q v H') → te σ2 H3 Q) (N : Hp → Prop)
    (hn : ∀ H4, Lcw K Hb p (if c = true then l ++ [d] else l) H4 → N H4) :
    t σ2 H' fun b H3 => if b = true then te σ2 H3 fun y H4 => ∃ acc, H4 p = some (.lst acc) ∧ acc.length < sizeLine ∧ N (upd H4 p (.lst (acc ++ [y]))) else N H3 := by
  refine ht H' w.ex _ fun H3 e3 => ?_
  obtain ⟨acc, w1, w2⟩ := w.at_
  cases c with
  | true =>
    show te σ2 H3 _
    refine he rfl H3 (w.ex.trans e3) _ fun y H4 e4 hy => ⟨acc, e4 _ _ (e3 _ _ w1), by rw [w2.length, sizeLine_eq]; omega, hn _ ⟨w.fr, fun a o q => ?_, acc ++ [y], upd_same, ?_⟩⟩
    · rw [upd_ne (ne_of_none q w.fr)]
      exact e4 _ _ (e3 _ _ (w.ex _ _ q))
    · have e5 : Ex (hid [p] H4) (hid [p] (upd H4 p (.lst (acc ++ [y])))) := fun a o q => by
        obtain ⟨q1, q2⟩ := hid_some q
        rw [hid_at q1, upd_ne (by simpa using q1)]
        exact q2
      refine ((w2.mono (hid_ex (e3.trans e4))).mono e5).append (.one ((hy.clean (fun a ha => ?_) (im rfl)).mono e5))
      have : a = p := by simpa using ha
      exact ⟨acc, by rw [this]; exact e4 _ _ (e3 _ _ w1)⟩
  | false =>
    show N H3
    exact hn _ ⟨w.fr, w.ex.trans e3, acc, e3 _ _ w1, w2.mono (hid_ex e3)⟩
theorem take_step {α : Type} {l : List α} {i : Nat} {d : α} (h : l[i]? = some d) : l.take (i + 1) = l.take i ++ [d] := by
  rw [List.take_add_one, h]
  rfl
theorem fm_step {α : Type} {l : List α} {i : Nat} {d : α} (f : α → Bool) (g : α → Y.D) (h : l[i]? = some d) :
    ((l.take (i + 1)).filter f).map g = if f d = true then ((l.take i).filter f).map g ++ [g d] else ((l.take i).filter f).map g := by
  rw [take_step h, List.filter_append, List.map_append]
  cases hf : f d <;> simp [hf]
theorem fm_len {α : Type} {l : List α} {i : Nat} (f : α → Bool) (g : α → Y.D) : (((l.take i).filter f).map g).length ≤ l.length := by
  rw [List.length_map]
  have h1 := List.length_filter_le f (l.take i)
  have h2 : (l.take i).length ≤ l.length := by rw [List.length_take]; omega
  omega
theorem ef_lcL {α : Type} {j : Nat} (c : α → Y.D) {ts : List α} (f : α → Bool) (g : α → Y.D) (h : EP K B H0 Z tc E (.lst (ts.map c))) (imc : ∀ a ∈ ts, (c a).im = true) (hz : ts.length < 100000)
    (ht : ∀ a ∈ ts, ET K B H0 Z t ((E.set j .no).set j (.val (c a))) (f a)) (he : ∀ a ∈ ts, f a = true → EP K B H0 Z te ((E.set j .no).set j (.val (c a))) (g a)) (im : ∀ a ∈ ts, f a = true → (g a).im = true) :
    EF K B H0 Z (tLc (iList K tc) (gName j) t te [j]) E ((ts.filter f).map g) := fun σ H e Q q =>
  h σ H e _ fun v H1 e1 h1 => by
    have e' := e.ext e1
    cases h1 with
    | lst hq ha =>
      rename_i r xs
      have hl : xs.length = ts.length := by rw [ha.length, List.length_map]
      refine ⟨r, rfl, ⟨xs, hq⟩, fun p np => ?_⟩
      refine lc_list (xs := xs) (fun i H' => Lcw K H1 p (((ts.take i).filter f).map g) H') ⟨np, Ex.new np, [], upd_same, by simpa using IsAll.nil⟩ (fun i H' _ w => sqL_ex w.ex hq) (fun i x H' hx w => ⟨wipe1 σ j _, ?_⟩) (fun H' w => ?_)
      · obtain ⟨d, hd1, hd2⟩ := ha.get hx
        obtain ⟨a, ha1, rfl⟩ := map_at hd1
        have hdm : a ∈ ts := List.mem_of_getElem? ha1
        have eb : ∀ H3, Ex H1 H3 → Env K B H0 Z ((E.set j .no).set j (.val (c a))) ((wipe σ [j]).set j (some x)) H3 := fun H3 x3 => ((e'.setNo j).set hd2 (imc a hdm)).ext x3
        refine lcw_turn w (Nat.lt_of_le_of_lt (fm_len f g) hz) (im a hdm) (fun H3 x3 => ht a hdm _ _ (eb H3 x3)) (fun hf H3 x3 => he a hdm hf _ _ (eb H3 x3)) _ fun H4 w4 => ?_
        rw [fm_step f g ha1]
        exact w4
      · obtain ⟨acc, w1, w2⟩ := w.at_
        rw [hl, List.take_length] at w2
        exact q p acc H' (e1.back np) (e1.trans w.ex) w1 (w2.mono (hid_le _ _))
theorem ef_lcT {α : Type} {j : Nat} (c : α → Y.D) {ts : List α} (f : α → Bool) (g : α → Y.D) (h : EP K B H0 Z tc E (.tup (ts.map c))) (imc : ∀ a ∈ ts, (c a).im = true) (hz : ts.length < 100000)
    (ht : ∀ a ∈ ts, ET K B H0 Z t ((E.set j .no).set j (.val (c a))) (f a)) (he : ∀ a ∈ ts, f a = true → EP K B H0 Z te ((E.set j .no).set j (.val (c a))) (g a)) (im : ∀ a ∈ ts, f a = true → (g a).im = true) :
    EF K B H0 Z (tLc (iTup K tc) (gName j) t te [j]) E ((ts.filter f).map g) := fun σ H e Q q =>
  h σ H e _ fun v H1 e1 h1 => by
    have e' := e.ext e1
    cases h1 with
    | tup hq ha =>
      rename_i r xs
      have hl : xs.length = ts.length := by rw [ha.length, List.length_map]
      refine ⟨r, rfl, ⟨xs, hq⟩, fun p np => ?_⟩
      refine lc_tup (xs := xs) (fun i H' => Lcw K H1 p (((ts.take i).filter f).map g) H') ⟨np, Ex.new np, [], upd_same, by simpa using IsAll.nil⟩ (fun i H' _ w => sqT_ex w.ex hq) (fun i x H' hx w => ⟨wipe1 σ j _, ?_⟩) (fun H' w => ?_)
      · obtain ⟨d, hd1, hd2⟩ := ha.get hx
        obtain ⟨a, ha1, rfl⟩ := map_at hd1
        have hdm : a ∈ ts := List.mem_of_getElem? ha1
        have eb : ∀ H3, Ex H1 H3 → Env K B H0 Z ((E.set j .no).set j (.val (c a))) ((wipe σ [j]).set j (some x)) H3 := fun H3 x3 => ((e'.setNo j).set hd2 (imc a hdm)).ext x3
        refine lcw_turn w (Nat.lt_of_le_of_lt (fm_len f g) hz) (im a hdm) (fun H3 x3 => ht a hdm _ _ (eb H3 x3)) (fun hf H3 x3 => he a hdm hf _ _ (eb H3 x3)) _ fun H4 w4 => ?_
        rw [fm_step f g ha1]
        exact w4
      · obtain ⟨acc, w1, w2⟩ := w.at_
        rw [hl, List.take_length] at w2
        exact q p acc H' (e1.back np) (e1.trans w.ex) w1 (w2.mono (hid_le _ _))
theorem range_at {n i : Nat} (h : i < n) : (List.range n)[i]? = some i := List.getElem?_range h
theorem ef_lcR {j : Nat} {n : Int} (f : Nat → Bool) (g : Nat → Y.D) (h : EA K B H0 Z ea E [.int n]) (hn : 0 ≤ n ∧ n < 100000)
    (ht : ∀ i : Nat, (i : Int) < n → ET K B H0 Z t ((E.set j .no).set j (.val (.int i))) (f i)) (he : ∀ i : Nat, (i : Int) < n → f i = true → EP K B H0 Z te ((E.set j .no).set j (.val (.int i))) (g i)) (im : ∀ i : Nat, (i : Int) < n → f i = true → (g i).im = true) :
    EF K B H0 Z (tLc (iRng1 ea) (gName j) t te [j]) E (((List.range n.toNat).filter f).map g) := fun σ H e Q q =>
  h σ H e _ fun vs H1 e1 h1 => by
    have e' := e.ext e1
    have : vs = [.int n] := by
      cases h1 with
      | cons a t => cases a; cases t; rfl
    subst this
    refine ⟨n, rfl, by omega, by omega, fun p np => ?_⟩
    refine lc_range (lo := 0) (n := n.toNat) (fun i H' => Lcw K H1 p ((((List.range n.toNat).take i).filter f).map g) H') ⟨np, Ex.new np, [], upd_same, by simpa using IsAll.nil⟩ (fun i H' hi w => ⟨wipe1 σ j _, ?_⟩) (fun H' w => ?_)
    · have hd1 := range_at hi
      have e0 : (0 : Int) + (i : Int) = (i : Int) := Int.zero_add _
      rw [e0]
      have hin : (i : Int) < n := by omega
      have eb : ∀ H3, Ex H1 H3 → Env K B H0 Z ((E.set j .no).set j (.val (.int i))) ((wipe σ [j]).set j (some (.int i))) H3 := fun H3 x3 => ((e'.setNo j).set (.int _) rfl).ext x3
      refine lcw_turn w (Nat.lt_of_le_of_lt (fm_len f g) (by rw [List.length_range]; omega)) (im i hin) (fun H3 x3 => ht i hin _ _ (eb H3 x3)) (fun hf H3 x3 => he i hin hf _ _ (eb H3 x3)) _ fun H4 w4 => ?_
      rw [fm_step f g hd1]
      exact w4
    · obtain ⟨acc, w1, w2⟩ := w.at_
      rw [List.take_of_length_le (by rw [List.length_range]; exact Nat.le_refl _)] at w2
      exact q p acc H' (e1.back np) (e1.trans w.ex) w1 (w2.mono (hid_le _ _))
theorem ef_lcR2 {j : Nat} {lo n : Int} (f : Nat → Bool) (g : Nat → Y.D) (h : EA K B H0 Z ea E [.int lo, .int n]) (hn : -100000 ≤ lo ∧ lo < 100000 ∧ -100000 ≤ n ∧ n < 100000) (hz : n - lo < 100000)
    (ht : ∀ i : Nat, lo + (i : Int) < n → ET K B H0 Z t ((E.set j .no).set j (.val (.int (lo + i)))) (f i)) (he : ∀ i : Nat, lo + (i : Int) < n → f i = true → EP K B H0 Z te ((E.set j .no).set j (.val (.int (lo + i)))) (g i)) (im : ∀ i : Nat, lo + (i : Int) < n → f i = true → (g i).im = true) :
    EF K B H0 Z (tLc (iRng2 ea) (gName j) t te [j]) E (((List.range (n - lo).toNat).filter f).map g) := fun σ H e Q q =>
  h σ H e _ fun vs H1 e1 h1 => by
    have e' := e.ext e1
    have : vs = [.int lo, .int n] := by
      cases h1 with
      | cons a t =>
        cases a
        cases t with
        | cons a t => cases a; cases t; rfl
    subst this
    refine ⟨lo, n, rfl, ⟨by omega, by omega, by omega, by omega⟩, fun p np => ?_⟩
    refine lc_range (lo := lo) (n := (n - lo).toNat) (fun i H' => Lcw K H1 p ((((List.range (n - lo).toNat).take i).filter f).map g) H') ⟨np, Ex.new np, [], upd_same, by simpa using IsAll.nil⟩ (fun i H' hi w => ⟨wipe1 σ j _, ?_⟩) (fun H' w => ?_)
    · have hd1 := range_at hi
      have hin : lo + (i : Int) < n := by omega
      have eb : ∀ H3, Ex H1 H3 → Env K B H0 Z ((E.set j .no).set j (.val (.int (lo + i)))) ((wipe σ [j]).set j (some (.int (lo + i)))) H3 := fun H3 x3 => ((e'.setNo j).set (.int _) rfl).ext x3
      refine lcw_turn w (Nat.lt_of_le_of_lt (fm_len f g) (by rw [List.length_range]; omega)) (im i hin) (fun H3 x3 => ht i hin _ _ (eb H3 x3)) (fun hf H3 x3 => he i hin hf _ _ (eb H3 x3)) _ fun H4 w4 => ?_
      rw [fm_step f g hd1]
      exact w4
    · obtain ⟨acc, w1, w2⟩ := w.at_
      rw [List.take_of_length_le (by rw [List.length_range]; exact Nat.le_refl _)] at w2
      exact q p acc H' (e1.back np) (e1.trans w.ex) w1 (w2.mono (hid_le _ _))
/-! without an if -/
theorem fm_true {α : Type} (l : List α) (g : α → Y.D) : (l.filter fun _ => true).map g = l.map g := by rw [List.filter_eq_self.mpr fun _ _ => rfl]
theorem ef_lcL1 {α : Type} {j : Nat} (c : α → Y.D) {ts : List α} (g : α → Y.D) (h : EP K B H0 Z tc E (.lst (ts.map c))) (imc : ∀ a ∈ ts, (c a).im = true) (hz : ts.length < 100000)
    (he : ∀ a ∈ ts, EP K B H0 Z te ((E.set j .no).set j (.val (c a))) (g a)) (im : ∀ a ∈ ts, (g a).im = true) : EF K B H0 Z (tLc (iList K tc) (gName j) tYes te [j]) E (ts.map g) := by
  rw [← fm_true]
  exact ef_lcL c (fun _ => true) g h imc hz (fun _ _ => et_yes) (fun a ha _ => he a ha) (fun a ha _ => im a ha)
theorem ef_lcT1 {α : Type} {j : Nat} (c : α → Y.D) {ts : List α} (g : α → Y.D) (h : EP K B H0 Z tc E (.tup (ts.map c))) (imc : ∀ a ∈ ts, (c a).im = true) (hz : ts.length < 100000)
    (he : ∀ a ∈ ts, EP K B H0 Z te ((E.set j .no).set j (.val (c a))) (g a)) (im : ∀ a ∈ ts, (g a).im = true) : EF K B H0 Z (tLc (iTup K tc) (gName j) tYes te [j]) E (ts.map g) := by
  rw [← fm_true]
  exact ef_lcT c (fun _ => true) g h imc hz (fun _ _ => et_yes) (fun a ha _ => he a ha) (fun a ha _ => im a ha)
theorem ef_lcR1 {j : Nat} {n : Int} (g : Nat → Y.D) (h : EA K B H0 Z ea E [.int n]) (hn : 0 ≤ n ∧ n < 100000)
    (he : ∀ i : Nat, (i : Int) < n → EP K B H0 Z te ((E.set j .no).set j (.val (.int i))) (g i)) (im : ∀ i : Nat, (i : Int) < n → (g i).im = true) : EF K B H0 Z (tLc (iRng1 ea) (gName j) tYes te [j]) E ((List.range n.toNat).map g) := by
  rw [← fm_true]
  exact ef_lcR (fun _ => true) g h hn (fun _ _ => et_yes) (fun a ha _ => he a ha) (fun a ha _ => im a ha)
theorem ef_lcR21 {j : Nat} {lo n : Int} (g : Nat → Y.D) (h : EA K B H0 Z ea E [.int lo, .int n]) (hn : -100000 ≤ lo ∧ lo < 100000 ∧ -100000 ≤ n ∧ n < 100000) (hz : n - lo < 100000)
    (he : ∀ i : Nat, lo + (i : Int) < n → EP K B H0 Z te ((E.set j .no).set j (.val (.int (lo + i)))) (g i)) (im : ∀ i : Nat, lo + (i : Int) < n → (g i).im = true) : EF K B H0 Z (tLc (iRng2 ea) (gName j) tYes te [j]) E ((List.range (n - lo).toNat).map g) := by
  rw [← fm_true]
  exact ef_lcR2 (fun _ => true) g h hn hz (fun _ _ => et_yes) (fun a ha _ => he a ha) (fun a ha _ => im a ha)
end
end Y
set_option Elab.async false
set_option linter.all false
set_option autoImplicit false
set_option maxRecDepth 100000
/-! The built-in operations, as data. -/
namespace Y
open PySem L2
section
variable {K : PySem.W.Frag} {B : List Addr} {H0 : Hp} {Z : Hp → Prop} {E : List Slot} {ta tb tc te : TE} {t u : TT} {ea : TA} {x y z d : D} {l m : List D} {b c : Bool}
/-! ### ints -/
theorem r2_int {g : Int → Int → Int} {i j : Int} : R2d K (rI0 fun i j => .int (g i j)) (.int i) (.int j) (.int (g i j)) := fun vx vy H hx hy Q q => by
  cases hx; cases hy
  exact ⟨i, j, rfl, rfl, q _ H (Ex.refl H) (.int _)⟩
theorem r2_cmp {g : Int → Int → Bool} {i j : Int} : R2d K (rI0 fun i j => .bl (g i j)) (.int i) (.int j) (.bl (g i j)) := fun vx vy H hx hy Q q => by
  cases hx; cases hy
  exact ⟨i, j, rfl, rfl, q _ H (Ex.refl H) (.bl _)⟩
theorem r2_intC {C : Int → Int → Prop} {g : Int → Int → Int} {i j : Int} (hc : C i j) : R2d K (rI C fun i j => .int (g i j)) (.int i) (.int j) (.int (g i j)) := fun vx vy H hx hy Q q => by
  cases hx; cases hy
  exact ⟨i, j, rfl, rfl, hc, q _ H (Ex.refl H) (.int _)⟩
theorem r2_eqI {i j : Int} : R2d K rEq (.int i) (.int j) (.bl (decide (i = j))) := fun vx vy H hx hy Q q => by
  cases hx; cases hy
  refine ⟨rfl, q _ H (Ex.refl H) ?_⟩
  rw [dec_int]
  exact .bl _
theorem r2_neI {i j : Int} : R2d K rNe (.int i) (.int j) (.bl (!decide (i = j))) := fun vx vy H hx hy Q q => by
  cases hx; cases hy
  refine ⟨rfl, q _ H (Ex.refl H) ?_⟩
  rw [dec_int]
  exact .bl _
theorem r2_eqB {i j : Bool} : R2d K rEq (.bl i) (.bl j) (.bl (decide (i = j))) := fun vx vy H hx hy Q q => by
  cases hx; cases hy
  refine ⟨rfl, q _ H (Ex.refl H) ?_⟩
  rw [dec_bl]
  cases i <;> cases j <;> exact .bl _
theorem r2_neB {i j : Bool} : R2d K rNe (.bl i) (.bl j) (.bl (!decide (i = j))) := fun vx vy H hx hy Q q => by
  cases hx; cases hy
  refine ⟨rfl, q _ H (Ex.refl H) ?_⟩
  rw [dec_bl]
  cases i <;> cases j <;> exact .bl _
theorem r2_eqS {i j : Str} : R2d K rEq (.str i) (.str j) (.bl (decide (i = j))) := fun vx vy H hx hy Q q => by
  cases hx; cases hy
  refine ⟨rfl, q _ H (Ex.refl H) ?_⟩
  have e : decide (V.str i = V.str j) = decide (i = j) := by
    by_cases h : i = j
    · subst h; simp
    · have : ¬ V.str i = V.str j := fun z => h (by injection z)
      simp [h, this]
  rw [e]
  exact .bl _
/-! ### data: flat items -/
def D.fl : D → Bool
  | .non => true | .bl _ => true | .int _ => true | .str _ => true | _ => false
def D.v : D → V
  | .bl b => .bl b | .int i => .int i | .str s => .str s | _ => .non
theorem Is.fl {v : V} {H : Hp} (h : Is K H v d) (f : d.fl = true) : v = d.v ∧ flatV v = true := by
  cases h <;> first | exact ⟨rfl, rfl⟩ | cases f
theorem isAll_fl {H : Hp} : ∀ {vs : List V} {l : List D}, IsAll K H vs l → (∀ d ∈ l, d.fl = true) → vs = l.map D.v ∧ vs.all flatV = true
  | _, _, .nil, _ => ⟨rfl, rfl⟩
  | _, _, .cons h t, f => by
    obtain ⟨h1, h2⟩ := h.fl (f _ List.mem_cons_self)
    obtain ⟨t1, t2⟩ := isAll_fl t fun d hd => f d (List.mem_cons_of_mem _ hd)
    exact ⟨by rw [h1, t1]; rfl, by rw [List.all_cons, h2, t2]; rfl⟩
theorem ints_fl (ns : List Int) : ∀ d ∈ ns.map D.int, d.fl = true := fun d hd => by
  obtain ⟨n, _, rfl⟩ := List.mem_map.mp hd
  rfl
theorem inV_ints (i : Int) : ∀ (ns : List Int), inV (.int i) ((ns.map D.int).map D.v) = decide (i ∈ ns)
  | [] => rfl
  | n :: ns => by
    have ih := inV_ints i ns
    show (eqV (.int n) (.int i) || inV (.int i) ((ns.map D.int).map D.v)) = _
    rw [ih]
    have e : eqV (.int n) (.int i) = decide (i = n) := by
      show (n == i) = _
      by_cases h : i = n
      · simp [h]
      · have : ¬ n = i := fun z => h z.symm
        simp [h, this]
    rw [e, Bool.eq_iff_iff]
    simp
theorem r2_in {neg : Bool} (hx : x.fl = true) (hl : ∀ d ∈ l, d.fl = true) (hy : y = .tup l ∨ y = .lst l) : R2d K (rIn K neg) x y (.bl (if neg then !inV x.v (l.map D.v) else inV x.v (l.map D.v))) := fun vx vy H h1 h2 Q q => by
  obtain ⟨e1, f1⟩ := h1.fl hx
  subst e1
  rcases hy with rfl | rfl
  · obtain ⟨a, xs, rfl, hs, ha⟩ := h2.tup_inv
    obtain ⟨e2, f2⟩ := isAll_fl ha hl
    subst e2
    exact ⟨a, _, rfl, .inr hs, f1, f2, q _ H (Ex.refl H) (.bl _)⟩
  · obtain ⟨a, xs, rfl, hs, ha⟩ := h2.lst_inv
    obtain ⟨e2, f2⟩ := isAll_fl ha hl
    subst e2
    exact ⟨a, _, rfl, .inl hs, f1, f2, q _ H (Ex.refl H) (.bl _)⟩
theorem r2_inI {i : Int} {ns : List Int} (hy : y = .tup (ns.map D.int) ∨ y = .lst (ns.map D.int)) : R2d K (rIn K false) (.int i) y (.bl (decide (i ∈ ns))) := by
  have h := r2_in (K := K) (neg := false) (x := .int i) rfl (ints_fl ns) hy
  simp only [Bool.false_eq_true, if_false] at h
  rw [show (D.int i).v = .int i from rfl, inV_ints] at h
  exact h
theorem r2_ninI {i : Int} {ns : List Int} (hy : y = .tup (ns.map D.int) ∨ y = .lst (ns.map D.int)) : R2d K (rIn K true) (.int i) y (.bl (!decide (i ∈ ns))) := by
  have h := r2_in (K := K) (neg := true) (x := .int i) rfl (ints_fl ns) hy
  simp only [if_true] at h
  rw [show (D.int i).v = .int i from rfl, inV_ints] at h
  exact h
/-! ### lists and tuples -/
theorem r2_ixT {i : Int} (h : atI l i = some d) : R2d K (rIxT K) (.tup l) (.int i) d := fun vx vy H hx hy Q q => by
  cases hy
  obtain ⟨a, xs, rfl, hs, ha⟩ := hx.tup_inv
  unfold atI at h
  cases e : ixN l.length i with
  | none => rw [e] at h; cases h
  | some j =>
    rw [e] at h
    obtain ⟨v, h1, h2⟩ := ha.getD h
    refine ⟨a, xs, i, v, rfl, rfl, hs, ?_, q v H (Ex.refl H) h2⟩
    unfold atI
    rw [ha.length, e]
    exact h1
theorem r2_ixL {i : Int} (h : atI l i = some d) : R2d K (rIxL K) (.lst l) (.int i) d := fun vx vy H hx hy Q q => by
  cases hy
  obtain ⟨a, xs, rfl, hs, ha⟩ := hx.lst_inv
  unfold atI at h
  cases e : ixN l.length i with
  | none => rw [e] at h; cases h
  | some j =>
    rw [e] at h
    obtain ⟨v, h1, h2⟩ := ha.getD h
    refine ⟨a, xs, i, v, rfl, rfl, hs, ?_, q v H (Ex.refl H) h2⟩
    unfold atI
    rw [ha.length, e]
    exact h1
theorem isAll_nil {H : Hp} {xs : List V} (h : IsAll K H xs l) : xs = [] ↔ l = [] := by
  cases h <;> simp
theorem r2_catA (hz : l.length + m.length ≤ 100000) : R2d K (rCatA K) (.tup l) (.tup m) (.tup (l ++ m)) := fun vx vy H hx hy Q q => by
  obtain ⟨a, xs, rfl, hs, ha⟩ := hx.tup_inv
  obtain ⟨b, ys, rfl, ht, hb⟩ := hy.tup_inv
  refine ⟨a, b, xs, ys, rfl, rfl, hs, ht, by rw [ha.length, hb.length, sizeLine_eq]; omega, fun e => ?_, fun e1 e2 => ?_, fun e1 e2 p np => ?_⟩
  · have e' := (isAll_nil ha).mp e
    subst e'
    exact q _ H (Ex.refl H) hy
  · have e' := (isAll_nil hb).mp e2
    subst e'
    rw [List.append_nil] at q
    exact q _ H (Ex.refl H) hx
  · exact q _ _ (Ex.new np) (.tup (SqT.of upd_same) ((ha.append hb).mono (Ex.new np)))
/-- a list that is this def's own or new -/
def EL (K : PySem.W.Frag) (B : List Addr) (H0 : Hp) (Z : Hp → Prop) (te : TE) (E : List Slot) (l : List D) : Prop :=
  ∀ σ H, Env K B H0 Z E σ H → ∀ Q : VK, (∀ p vs H', Ex H H' → H' p = some (.lst vs) → IsAll K H' vs l → Q (.ref p) H') → te σ H Q
theorem el_own {i : Nat} {p : Addr} (h : E[i]? = some (.own p l)) : EL K B H0 Z (tVar i) E l := fun σ H e Q q => by
  obtain ⟨h1, vs, h2, h3⟩ := e.own i p l h
  exact ⟨_, h1, q p vs H (Ex.refl H) h2 (h3.mono (hid_le _ _))⟩
theorem el_new (h : EF K B H0 Z te E l) : EL K B H0 Z te E l := fun σ H e Q q => h σ H e Q fun p vs H' _ x h1 h2 => q p vs H' x h1 h2
theorem ef_cat (ha : EL K B H0 Z ta E l) (hb : EL K B H0 Z tb E m) (hz : l.length + m.length ≤ 100000) : EF K B H0 Z (tOp rCat ta tb) E (l ++ m) := fun σ H e Q q =>
  ha σ H e _ fun p vs H1 e1 h1 i1 => hb σ H1 (e.ext e1) _ fun p' ws H2 e2 h2 i2 => ⟨p, p', vs, ws, rfl, rfl, e2 _ _ h1, h2, by rw [i1.length, i2.length, sizeLine_eq]; omega, fun r nr =>
    q r _ _ ((e1.trans e2).back nr) ((e1.trans e2).trans (Ex.new nr)) upd_same (((i1.mono e2).append i2).mono (Ex.new nr))⟩
theorem ef_rep {k : Int} (ha : EL K B H0 Z ta E l) (hb : EP K B H0 Z tb E (.int k)) (hk : 0 ≤ k ∧ k ≤ 1000 ∧ l.length ≤ 100) : EF K B H0 Z (tOp rRep ta tb) E (List.replicate k.toNat l).flatten := fun σ H e Q q =>
  ha σ H e _ fun p vs H1 e1 h1 i1 => hb σ H1 (e.ext e1) _ fun v H2 e2 h2 => by
    cases h2
    refine ⟨p, k, vs, rfl, rfl, e2 _ _ h1, by omega, by omega, ?_, fun r nr => q r _ _ ((e1.trans e2).back nr) ((e1.trans e2).trans (Ex.new nr)) upd_same (IsAll.mono (Ex.new nr) ?_)⟩
    · have : vs.length * k.toNat ≤ 100 * 1000 := Nat.mul_le_mul (by rw [i1.length]; omega) (by omega)
      rw [sizeLine_eq]
      omega
    · have i2 := i1.mono e2
      clear hk
      induction k.toNat with
      | zero => exact .nil
      | succ n ih => exact i2.append ih
/-! ### built-ins called -/
theorem rc_lenT : RCd K (fun xs H Q => ∃ p ys, xs = [.ref p] ∧ (SqL K H p ys ∨ SqT K H p ys) ∧ Q (.int ys.length) H) [.tup l] (.int l.length) := fun vs H h Q q => by
  cases h with
  | cons h t =>
    cases t
    obtain ⟨a, xs, rfl, hs, ha⟩ := h.tup_inv
    refine ⟨a, xs, rfl, .inr hs, q _ H (Ex.refl H) ?_⟩
    rw [ha.length]
    exact .int _
theorem rc_lenL : RCd K (fun xs H Q => ∃ p ys, xs = [.ref p] ∧ (SqL K H p ys ∨ SqT K H p ys) ∧ Q (.int ys.length) H) [.lst l] (.int l.length) := fun vs H h Q q => by
  cases h with
  | cons h t =>
    cases t
    obtain ⟨a, xs, rfl, hs, ha⟩ := h.lst_inv
    refine ⟨a, xs, rfl, .inl hs, q _ H (Ex.refl H) ?_⟩
    rw [ha.length]
    exact .int _
theorem rc_sum {ns : List Int} : RCd K (rSum K) [.lst (ns.map D.int)] (.int ns.sum) := fun vs H h Q q => by
  cases h with
  | cons h t =>
    cases t
    obtain ⟨a, xs, rfl, hs, ha⟩ := h.lst_inv
    rw [ha.ints] at hs
    exact ⟨a, ns, rfl, hs, q _ H (Ex.refl H) (.int _)⟩
theorem isAll_bls {H : Hp} : ∀ {vs : List V} {bs : List Bool}, IsAll K H vs (bs.map D.bl) → vs = bs.map V.bl
  | _, [], .nil => rfl
  | _, n :: ns, .cons h t => by
    cases h
    rw [isAll_bls t]
    rfl
theorem rc_all {bs : List Bool} : RCd K (rAll K) [.lst (bs.map D.bl)] (.bl (bs.all id)) := fun vs H h Q q => by
  cases h with
  | cons h t =>
    cases t
    obtain ⟨a, xs, rfl, hs, ha⟩ := h.lst_inv
    rw [isAll_bls ha] at hs
    exact ⟨a, bs, rfl, hs, q _ H (Ex.refl H) (.bl _)⟩
theorem rc_any {bs : List Bool} : RCd K (rAny K) [.lst (bs.map D.bl)] (.bl (bs.any id)) := fun vs H h Q q => by
  cases h with
  | cons h t =>
    cases t
    obtain ⟨a, xs, rfl, hs, ha⟩ := h.lst_inv
    rw [isAll_bls ha] at hs
    exact ⟨a, bs, rfl, hs, q _ H (Ex.refl H) (.bl _)⟩
theorem rc_tupleL : RCd K (fun xs H Q => ∃ p ys, xs = [.ref p] ∧ ((SqL K H p ys ∧ ∀ l, H l = none → Q (.ref l) (upd H l (.tup ys))) ∨ (SqT K H p ys ∧ Q (.ref p) H))) [.lst l] (.tup l) := fun vs H h Q q => by
  cases h with
  | cons h t =>
    cases t
    obtain ⟨a, xs, rfl, hs, ha⟩ := h.lst_inv
    exact ⟨a, xs, rfl, .inl ⟨hs, fun p np => q _ _ (Ex.new np) (.tup (SqT.of upd_same) (ha.mono (Ex.new np)))⟩⟩
theorem rc_tupleT : RCd K (fun xs H Q => ∃ p ys, xs = [.ref p] ∧ ((SqL K H p ys ∧ ∀ l, H l = none → Q (.ref l) (upd H l (.tup ys))) ∨ (SqT K H p ys ∧ Q (.ref p) H))) [.tup l] (.tup l) := fun vs H h Q q => by
  cases h with
  | cons h t =>
    cases t
    obtain ⟨a, xs, rfl, hs, ha⟩ := id h.tup_inv
    exact ⟨a, xs, rfl, .inr ⟨hs, q _ H (Ex.refl H) h⟩⟩
theorem rf_list (hy : y = .tup l ∨ y = .lst l) : RCf K (fun xs H Q => ∃ p ys, xs = [.ref p] ∧ (SqL K H p ys ∨ SqT K H p ys) ∧ ∀ l, H l = none → Q (.ref l) (upd H l (.lst ys))) [y] l := fun vs H h Q q => by
  cases h with
  | cons h t =>
    cases t
    rcases hy with rfl | rfl
    · obtain ⟨a, xs, rfl, hs, ha⟩ := h.tup_inv
      exact ⟨a, xs, rfl, .inr hs, fun p np => q p xs _ np (Ex.new np) upd_same (ha.mono (Ex.new np))⟩
    · obtain ⟨a, xs, rfl, hs, ha⟩ := h.lst_inv
      exact ⟨a, xs, rfl, .inl hs, fun p np => q p xs _ np (Ex.new np) upd_same (ha.mono (Ex.new np))⟩
theorem rc_intI {i : Int} : RCd K (fun xs H Q => (∃ i, xs = [.int i] ∧ Q (.int i) H) ∨ ∃ k, xs = [.bl k] ∧ Q (.int (if k then 1 else 0)) H) [.int i] (.int i) := fun vs H h Q q => by
  cases h with
  | cons h t =>
    cases t; cases h
    exact .inl ⟨i, rfl, q _ H (Ex.refl H) (.int _)⟩
theorem rc_intB {b : Bool} : RCd K (fun xs H Q => (∃ i, xs = [.int i] ∧ Q (.int i) H) ∨ ∃ k, xs = [.bl k] ∧ Q (.int (if k then 1 else 0)) H) [.bl b] (.int (if b then 1 else 0)) := fun vs H h Q q => by
  cases h with
  | cons h t =>
    cases t; cases h
    exact .inr ⟨b, rfl, q _ H (Ex.refl H) (.int _)⟩
/-- sorted(ints) -/
def srtI (ns : List Int) : List Int := ns.mergeSort fun a b => decide (a ≤ b)
theorem srtI_eq {ns ms : List Int} (h : ms.Perm ns) (p : ms.Pairwise (· ≤ ·)) : ms = srtI ns := by
  have h2 : (srtI ns).Pairwise (· ≤ ·) := (List.pairwise_mergeSort (le := fun a b : Int => decide (a ≤ b)) (fun a b c h1 h2 => by simp at *; omega) (fun a b => by simp; omega) ns).imp fun h => by simpa using h
  have h3 : ms.Perm (srtI ns) := h.trans (List.mergeSort_perm _ _).symm
  exact List.Perm.eq_of_pairwise (fun a b _ _ h1 h2 => Int.le_antisymm h1 h2) p h2 h3
theorem rf_sortedI {ns : List Int} (hy : y = .lst (ns.map D.int)) : RCf K (rSortedI K) [y] ((srtI ns).map D.int) := fun vs H h Q q => by
  subst hy
  cases h with
  | cons h t =>
    cases t
    obtain ⟨a, xs, rfl, hs, ha⟩ := h.lst_inv
    rw [ha.ints] at hs
    refine ⟨a, ns, rfl, hs, fun ms p h1 h2 np => ?_⟩
    rw [srtI_eq h1 h2]
    exact q p _ _ np (Ex.new np) upd_same ((isAll_ints _).mono (Ex.new np))
end
end Y
set_option Elab.async false
set_option linter.all false
set_option autoImplicit false
set_option maxRecDepth 100000
/-! Tuples of things, tuples and lists of such, their order; == and in at depth. -/
namespace Y
open PySem L2
/-- the numbers as ints -/
def zs (l : List Nat) : List Int := l.map fun (n : Nat) => (n : Int)
/-- a tuple of things; several as a tuple, as a list -/
def tD (l : List Nat) : D := .tup ((zs l).map D.int)
def tsD (ls : List (List Nat)) : D := .tup (ls.map tD)
def lsD (ls : List (List Nat)) : D := .lst (ls.map tD)
def isD (l : List Nat) : D := .lst ((zs l).map D.int)
theorem imAll_ints (l : List Int) : imAll (l.map D.int) = true := by
  rw [imAll_iff]
  intro d hd
  obtain ⟨n, _, rfl⟩ := List.mem_map.mp hd
  rfl
theorem imAll_bls (l : List Bool) : imAll (l.map D.bl) = true := by
  rw [imAll_iff]
  intro d hd
  obtain ⟨n, _, rfl⟩ := List.mem_map.mp hd
  rfl
theorem tD_im (l : List Nat) : (tD l).im = true := by
  show imAll _ = true
  exact imAll_ints _
theorem imAll_tD (ls : List (List Nat)) : imAll (ls.map tD) = true := by
  rw [imAll_iff]
  intro d hd
  obtain ⟨l, _, rfl⟩ := List.mem_map.mp hd
  exact tD_im l
theorem tsD_im (ls : List (List Nat)) : (tsD ls).im = true := imAll_tD ls

mutual
def D.py : D → PyData
  | .bl b => .bool b
  | .int i => .int i
  | .str s => .str s
  | .tup l => .tuple (pyAll l)
  | .lst l => .list (pyAll l)
  | _ => .none
def pyAll : List D → List PyData
  | [] => []
  | d :: l => d.py :: pyAll l
end
/-! data without objects, classes, truth values -/
mutual
def D.pl : D → Bool
  | .ins _ _ _ => false
  | .ty _ => false
  | .adr _ => false
  | .bl _ => false
  | .tup l => plAll l
  | .lst l => plAll l
  | _ => true
def plAll : List D → Bool
  | [] => true
  | d :: l => d.pl && plAll l
end
mutual
theorem Is.dp {K : PySem.W.Frag} {H : Hp} : ∀ {v : V} {d : D}, Is K H v d → d.pl = true → Dp K H v d.py
  | _, _, .non, _ => .non
  | _, _, .bl b, _ => .bl b
  | _, _, .int i, _ => .int i
  | _, _, .str x, _ => .str x
  | _, _, .ty n, p => by simp [D.pl] at p
  | _, _, .adr n, p => by simp [D.pl] at p
  | _, _, .tup h t, p => .tup h (IsAll.dp t (by simpa [D.pl] using p))
  | _, _, .lst h t, p => .lst h (IsAll.dp t (by simpa [D.pl] using p))
  | _, _, .ins h n t, p => by simp [D.pl] at p
theorem IsAll.dp {K : PySem.W.Frag} {H : Hp} : ∀ {vs : List V} {l : List D}, IsAll K H vs l → plAll l = true → DpAll K H vs (pyAll l)
  | _, _, .nil, _ => .nil
  | _, _, .cons h t, p => .cons (Is.dp h (by simp [plAll] at p; exact p.1)) (IsAll.dp t (by simp [plAll] at p; exact p.2))
end
mutual
theorem eqv_pl : ∀ (x y : D), x.pl = true → y.pl = true → (PyData.eqv x.py y.py = true ↔ x = y)
  | .non, .non, _, _ => by simp [D.py, PyData.eqv]
  | .int i, .int j, _, _ => by simp [D.py, PyData.eqv]
  | .str i, .str j, _, _ => by simp [D.py, PyData.eqv]
  | .tup l, .tup m, h1, h2 => by
    have := eqvAll_pl l m (by simpa [D.pl] using h1) (by simpa [D.pl] using h2)
    simp [D.py, PyData.eqv, this]
  | .lst l, .lst m, h1, h2 => by
    have := eqvAll_pl l m (by simpa [D.pl] using h1) (by simpa [D.pl] using h2)
    simp [D.py, PyData.eqv, this]
  | .non, .int _, _, _ => by simp [D.py, PyData.eqv]
  | .non, .str _, _, _ => by simp [D.py, PyData.eqv]
  | .non, .tup _, _, _ => by simp [D.py, PyData.eqv]
  | .non, .lst _, _, _ => by simp [D.py, PyData.eqv]
  | .int _, .non, _, _ => by simp [D.py, PyData.eqv]
  | .int _, .str _, _, _ => by simp [D.py, PyData.eqv]
  | .int _, .tup _, _, _ => by simp [D.py, PyData.eqv]
  | .int _, .lst _, _, _ => by simp [D.py, PyData.eqv]
  | .str _, .non, _, _ => by simp [D.py, PyData.eqv]
  | .str _, .int _, _, _ => by simp [D.py, PyData.eqv]
  | .str _, .tup _, _, _ => by simp [D.py, PyData.eqv]
  | .str _, .lst _, _, _ => by simp [D.py, PyData.eqv]
  | .tup _, .non, _, _ => by simp [D.py, PyData.eqv]
  | .tup _, .int _, _, _ => by simp [D.py, PyData.eqv]
  | .tup _, .str _, _, _ => by simp [D.py, PyData.eqv]
  | .tup _, .lst _, _, _ => by simp [D.py, PyData.eqv]
  | .lst _, .non, _, _ => by simp [D.py, PyData.eqv]
  | .lst _, .int _, _, _ => by simp [D.py, PyData.eqv]
  | .lst _, .str _, _, _ => by simp [D.py, PyData.eqv]
  | .lst _, .tup _, _, _ => by simp [D.py, PyData.eqv]
  | .ins _ _ _, _, h, _ => by simp [D.pl] at h
  | .ty _, _, h, _ => by simp [D.pl] at h
  | .adr _, _, h, _ => by simp [D.pl] at h
  | .bl _, _, h, _ => by simp [D.pl] at h
  | _, .ins _ _ _, _, h => by simp [D.pl] at h
  | _, .ty _, _, h => by simp [D.pl] at h
  | _, .adr _, _, h => by simp [D.pl] at h
  | _, .bl _, _, h => by simp [D.pl] at h
theorem eqvAll_pl : ∀ (l m : List D), plAll l = true → plAll m = true → (PyData.eqvAll (pyAll l) (pyAll m) = true ↔ l = m)
  | [], [], _, _ => by simp [pyAll, PyData.eqvAll]
  | [], _ :: _, _, _ => by simp [pyAll, PyData.eqvAll]
  | _ :: _, [], _, _ => by simp [pyAll, PyData.eqvAll]
  | x :: l, y :: m, h1, h2 => by
    have a := eqv_pl x y (by simp [plAll] at h1; exact h1.1) (by simp [plAll] at h2; exact h2.1)
    have b := eqvAll_pl l m (by simp [plAll] at h1; exact h1.2) (by simp [plAll] at h2; exact h2.2)
    simp [pyAll, PyData.eqvAll, a, b]
end
/-! sizes -/
mutual
def D.dep : D → Nat
  | .tup l => depAll l + 1
  | .lst l => depAll l + 1
  | _ => 0
def depAll : List D → Nat
  | [] => 0
  | d :: l => max d.dep (depAll l)
end
mutual
def D.so : D → Bool
  | .str x => PyData.strOk x
  | .tup l => soAll l
  | .lst l => soAll l
  | _ => true
def soAll : List D → Bool
  | [] => true
  | d :: l => d.so && soAll l
end
mutual
theorem lay_pl : ∀ (d : D), d.so = true → d.py.canLay0 = true ∧ d.py.depth ≤ d.dep
  | .non, _ => by simp [D.py, PyData.canLay0, PyData.depth, D.dep]
  | .bl _, _ => by simp [D.py, PyData.canLay0, PyData.depth, D.dep]
  | .int _, _ => by simp [D.py, PyData.canLay0, PyData.depth, D.dep]
  | .ty _, _ => by simp [D.py, PyData.canLay0, PyData.depth, D.dep]
  | .adr _, _ => by simp [D.py, PyData.canLay0, PyData.depth, D.dep]
  | .ins _ _ _, _ => by simp [D.py, PyData.canLay0, PyData.depth, D.dep]
  | .str x, h => ⟨by simpa [D.py, PyData.canLay0, D.so] using h, by simp [D.py, PyData.depth, D.dep]⟩
  | .tup l, h => by
    obtain ⟨a, b⟩ := layAll_pl l (by simpa [D.so] using h)
    exact ⟨by simpa [D.py, PyData.canLay0] using a, by simp only [D.py, PyData.depth, D.dep]; omega⟩
  | .lst l, h => by
    obtain ⟨a, b⟩ := layAll_pl l (by simpa [D.so] using h)
    exact ⟨by simpa [D.py, PyData.canLay0] using a, by simp only [D.py, PyData.depth, D.dep]; omega⟩
theorem layAll_pl : ∀ (l : List D), soAll l = true → PyData.canLayAll0 (pyAll l) = true ∧ PyData.depthAll (pyAll l) ≤ depAll l
  | [], _ => by simp [pyAll, PyData.canLayAll0, PyData.depthAll]
  | d :: l, h => by
    obtain ⟨a, b⟩ := lay_pl d (by simp [soAll] at h; exact h.1)
    obtain ⟨a', b'⟩ := layAll_pl l (by simp [soAll] at h; exact h.2)
    exact ⟨by simp [pyAll, PyData.canLayAll0, a, a'], by simp only [pyAll, PyData.depthAll, depAll]; omega⟩
end
theorem shaped_pl {d : D} (h : d.so = true) (hd : d.dep ≤ 60) : SeqAt.shaped d.py = true := by
  obtain ⟨a, b⟩ := lay_pl d h
  show (_ && decide _) = true
  rw [a, decide_eq_true (by omega)]
  rfl
/-- data that may be compared: no objects, not deep -/
structure Cmpb (d : D) : Prop where
  pl : d.pl = true
  so : d.so = true
  dep : d.dep ≤ 60
section
variable {K : PySem.W.Frag} {x y d : D} {l : List D}
theorem r2_eqD {b : Bool} (hx : Cmpb x) (hy : Cmpb y) (hb : (b = true ↔ x = y)) : R2d K (rEqD K) x y (.bl b) := fun vx vy H h1 h2 Q q => by
  refine ⟨x.py, y.py, h1.dp hx.pl, h2.dp hy.pl, shaped_pl hx.so hx.dep, shaped_pl hy.so hy.dep, q _ H (Ex.refl H) ?_⟩
  have e : PyData.eqv x.py y.py = b := by
    have := eqv_pl x y hx.pl hy.pl
    rw [Bool.eq_iff_iff, this, hb]
  rw [e]
  exact .bl _
theorem r2_neD {b : Bool} (hx : Cmpb x) (hy : Cmpb y) (hb : (b = true ↔ ¬ x = y)) : R2d K (rNeD K) x y (.bl b) := fun vx vy H h1 h2 Q q => by
  refine ⟨x.py, y.py, h1.dp hx.pl, h2.dp hy.pl, shaped_pl hx.so hx.dep, shaped_pl hy.so hy.dep, q _ H (Ex.refl H) ?_⟩
  have e : (!PyData.eqv x.py y.py) = b := by
    have := eqv_pl x y hx.pl hy.pl
    rw [Bool.eq_iff_iff, hb, ← this]
    cases PyData.eqv x.py y.py <;> simp
  rw [e]
  exact .bl _
theorem any_py {x : D} (hx : x.pl = true) : ∀ {l : List D}, plAll l = true → ((pyAll l).any (fun z => PyData.eqv z x.py) = true ↔ x ∈ l)
  | [], _ => by simp [pyAll]
  | d :: l, h => by
    have a := eqv_pl d x (by simp [plAll] at h; exact h.1) hx
    have b := any_py hx (l := l) (by simp [plAll] at h; exact h.2)
    simp only [pyAll, List.any_cons, Bool.or_eq_true, a, b, List.mem_cons]
    constructor
    · rintro (h | h)
      · exact .inl h.symm
      · exact .inr h
    · rintro (h | h)
      · exact .inl h.symm
      · exact .inr h
theorem r2_inD {b : Bool} (hx : Cmpb x) (hy : Cmpb (.lst l)) (hb : (b = true ↔ x ∈ l)) : R2d K (rInD K) x (.lst l) (.bl b) := fun vx vy H h1 h2 Q q => by
  have p : plAll l = true := by simpa [D.pl] using hy.pl
  refine ⟨x.py, pyAll l, h1.dp hx.pl, ?_, shaped_pl hx.so hx.dep, ?_, q _ H (Ex.refl H) ?_⟩
  · have := h2.dp hy.pl
    simpa [D.py] using this
  · have := shaped_pl hy.so hy.dep
    simpa [D.py] using this
  · have e : ((pyAll l).any fun z => PyData.eqv z x.py) = b := by
      rw [Bool.eq_iff_iff, any_py hx.pl p, hb]
    rw [e]
    exact .bl _
theorem r2_ninD {b : Bool} (hx : Cmpb x) (hy : Cmpb (.lst l)) (hb : (b = true ↔ x ∉ l)) : R2d K (rNotInD K) x (.lst l) (.bl b) := fun vx vy H h1 h2 Q q => by
  have p : plAll l = true := by simpa [D.pl] using hy.pl
  refine ⟨x.py, pyAll l, h1.dp hx.pl, ?_, shaped_pl hx.so hx.dep, ?_, q _ H (Ex.refl H) ?_⟩
  · have := h2.dp hy.pl
    simpa [D.py] using this
  · have := shaped_pl hy.so hy.dep
    simpa [D.py] using this
  · have e : (!(pyAll l).any fun z => PyData.eqv z x.py) = b := by
      have := any_py hx.pl p
      rw [Bool.eq_iff_iff, hb, ← this]
      cases (pyAll l).any fun z => PyData.eqv z x.py <;> simp
    rw [e]
    exact .bl _
end
theorem plAll_iff : ∀ {l : List D}, plAll l = true ↔ ∀ d ∈ l, d.pl = true
  | [] => by simp [plAll]
  | d :: l => by simp [plAll, plAll_iff (l := l)]
theorem soAll_iff : ∀ {l : List D}, soAll l = true ↔ ∀ d ∈ l, d.so = true
  | [] => by simp [soAll]
  | d :: l => by simp [soAll, soAll_iff (l := l)]
theorem depAll_le {n : Nat} : ∀ {l : List D}, depAll l ≤ n ↔ ∀ d ∈ l, d.dep ≤ n
  | [] => by simp [depAll]
  | d :: l => by
    have := depAll_le (n := n) (l := l)
    simp only [depAll, List.mem_cons, forall_eq_or_imp, ← this]
    omega
theorem cmpb_list {l : List D} (h : ∀ d ∈ l, d.pl = true ∧ d.so = true ∧ d.dep ≤ 50) : Cmpb (.lst l) ∧ Cmpb (.tup l) := by
  have a := plAll_iff.mpr fun d hd => (h d hd).1
  have b := soAll_iff.mpr fun d hd => (h d hd).2.1
  have c := depAll_le.mpr fun d hd => (h d hd).2.2
  exact ⟨⟨by simpa [D.pl] using a, by simpa [D.so] using b, by simp only [D.dep]; omega⟩, ⟨by simpa [D.pl] using a, by simpa [D.so] using b, by simp only [D.dep]; omega⟩⟩
theorem tD_ok (l : List Nat) : (tD l).pl = true ∧ (tD l).so = true ∧ (tD l).dep ≤ 1 := by
  have a : ∀ d ∈ (zs l).map D.int, d.pl = true ∧ d.so = true ∧ d.dep ≤ 0 := fun d hd => by
    obtain ⟨n, _, rfl⟩ := List.mem_map.mp hd
    exact ⟨rfl, rfl, Nat.le_refl _⟩
  have p := plAll_iff.mpr fun d hd => (a d hd).1
  have q := soAll_iff.mpr fun d hd => (a d hd).2.1
  have r := depAll_le.mpr fun d hd => (a d hd).2.2
  exact ⟨by simpa [D.pl, tD] using p, by simpa [D.so, tD] using q, by simp only [D.dep, tD]; omega⟩
theorem tD_cmp (l : List Nat) : Cmpb (tD l) := ⟨(tD_ok l).1, (tD_ok l).2.1, by have := (tD_ok l).2.2; omega⟩
theorem lsD_cmp (ls : List (List Nat)) : Cmpb (lsD ls) ∧ Cmpb (tsD ls) := cmpb_list fun d hd => by
  obtain ⟨l, _, rfl⟩ := List.mem_map.mp hd
  obtain ⟨a, b, c⟩ := tD_ok l
  exact ⟨a, b, by omega⟩
theorem map_int_inj {l m : List Nat} : ((zs l).map D.int) = ((zs m).map D.int) ↔ l = m := by
  constructor
  · intro h
    induction l generalizing m with
    | nil => cases m <;> simp_all [zs]
    | cons a l ih =>
      cases m with
      | nil => simp [zs] at h
      | cons b m =>
        simp only [zs, List.map_cons, List.cons.injEq, D.int.injEq] at h
        have h1 : a = b := by omega
        rw [h1, ih h.2]
  · rintro rfl; rfl
theorem tD_inj {l m : List Nat} : tD l = tD m ↔ l = m := by
  unfold tD
  rw [D.tup.injEq, map_int_inj]
theorem map_tD_inj {l m : List (List Nat)} : l.map tD = m.map tD ↔ l = m := by
  constructor
  · intro h
    induction l generalizing m with
    | nil => cases m <;> simp_all
    | cons a l ih =>
      cases m with
      | nil => simp at h
      | cons b m =>
        simp only [List.map_cons, List.cons.injEq, tD_inj] at h
        rw [h.1, ih h.2]
  · rintro rfl; rfl
theorem mem_tD {x : List Nat} {l : List (List Nat)} : tD x ∈ l.map tD ↔ x ∈ l := by
  constructor
  · intro h
    obtain ⟨y, h1, h2⟩ := List.mem_map.mp h
    rw [← tD_inj.mp h2]
    exact h1
  · exact List.mem_map_of_mem
end Y
set_option Elab.async false
set_option linter.all false
set_option autoImplicit false
set_option maxRecDepth 100000
set_option maxHeartbeats 1000000
/-! sorted over tuples of things, of any lengths. -/
namespace Y
open PySem L2 PySem.W PyProof.Rows

def encT (t : List Nat) : PyData := .tuple ((zs t).map .int)
theorem pyAll_ints : ∀ (l : List Int), pyAll (l.map D.int) = l.map PyData.int
  | [] => rfl
  | i :: l => by
    show D.py (.int i) :: pyAll (l.map D.int) = _
    rw [pyAll_ints l]
    rfl
theorem encT_eq (t : List Nat) : (tD t).py = encT t := by
  show PyData.tuple (pyAll _) = _
  rw [pyAll_ints]
  rfl
theorem zs_lt : ∀ (a b : List Nat), zs a < zs b ↔ a < b
  | [], [] => by simp [zs]
  | [], b :: bs => by simp [zs]
  | a :: as, [] => by simp [zs]
  | a :: as, b :: bs => by
    have ih := zs_lt as bs
    show ((a : Int) :: zs as) < ((b : Int) :: zs bs) ↔ _
    rw [List.cons_lt_cons_iff, List.cons_lt_cons_iff, ih]
    constructor
    · rintro (h | ⟨h1, h2⟩)
      · exact .inl (by omega)
      · exact .inr ⟨by omega, h2⟩
    · rintro (h | ⟨h1, h2⟩)
      · exact .inl (by omega)
      · exact .inr ⟨by omega, h2⟩
theorem dataLe_encT : dataLe false encT = fun p q => decide (p ≤ q) := by
  funext p q
  show (!dataLt (encT q) (encT p)) = _
  unfold encT
  rw [dataLt_tuple]
  show (!rowLt ((zs q).map .int) ((zs p).map .int)) = _
  rw [dataLt_ints]
  by_cases h : q < p
  · have h' : ¬ p ≤ q := fun r => List.not_lt.mpr r h
    have h2 := (zs_lt q p).mpr h
    simp [h2, h']
  · have h' : p ≤ q := List.not_lt.mp h
    have h2 : ¬ zs q < zs p := fun z => h ((zs_lt q p).mp z)
    simp [h2, h']
theorem encT_alike (l : List (List Nat)) : AllAlike (l.map encT) := AllAlike.of fun a b => by
  show alike (.tuple _) (.tuple _) = true
  rw [alike]
  exact alike_ints _ _
theorem encT_depth (t : List Nat) : (encT t).depth = 1 := by
  unfold encT
  rw [PyData.depth, depth_ints]
section
variable {prog : Program} {w : World} {A : Around} {s : Shared}
theorem sortsT {vs : List Value} {ts : List (List Nat)} (e : EachIs (fun v t => ∃ as, Reads s.heap v (encT t) as) vs ts) (hk : ts.length ≤ 1 ∨ ∀ t ∈ ts, t ≠ []) (hu : A.units + 1 < cLine) : SortsAt prog w A s (dataKind s.heap (ts.map encT)) vs := by
  have e' := each_map (R := fun v d => ∃ as, Reads s.heap v d as) encT e
  have ub : ∀ d, d ∈ ts.map encT → A.units + d.depth < cLine := fun d hd => by
    obtain ⟨t, _, rfl⟩ := List.mem_map.mp hd
    rw [encT_depth]
    exact hu
  rcases hk with h1 | hn
  · refine ⟨fun v hv => ?_, tuples' true, fun E x y a b Q ha hb hq => ?_, fun h2 => ?_⟩
    · obtain ⟨d, hd, as, r⟩ := e'.left v hv
      exact ⟨_, dataKind_some (encT_alike ts) hd r⟩
    · obtain ⟨d, as, hd, ra, rfl⟩ := dataKind_inv ha
      obtain ⟨d', as', hd', rb, rfl⟩ := dataKind_inv hb
      obtain ⟨p, _, rfl⟩ := List.mem_map.mp hd
      obtain ⟨q, _, rfl⟩ := List.mem_map.mp hd'
      have hq' : Q (dataLt (encT p) (encT q)) s := hq
      unfold encT at hq' ra rb
      rw [dataLt_tuple] at hq'
      cases ra with
      | @tuple l o xs n _ _ h1 h2 h3 h4 =>
        cases rb with
        | @tuple l' o' xs' n' _ _ k1 k2 k3 k4 =>
          have n1 : xs.size = ((zs p).map PyData.int).length := by simpa using SeqAt.ReadsAll.length _ _ _ h4
          have n2 : xs'.size = ((zs q).map PyData.int).length := by simpa using SeqAt.ReadsAll.length _ _ _ k4
          refine kat_lt h1 h3 k1 k3 (katLex_alike _ _ 0 _ _ _ _ h4 k4 (alike_ints _ _) (by rw [depth_ints, depth_ints]; simp; omega) (fun hb _ x r t ex => ?_) (by rw [n1, n2]) hq')
          have : x ∈ (zs p).map PyData.int := by rw [ex]; exact List.mem_cons_self
          obtain ⟨i, _, rfl⟩ := List.mem_map.mp this
          intro z; cases z
    · have := e.length
      omega
  · refine SortsAt.data e' (encT_alike ts) (.inl fun d hd => ?_) ub
    obtain ⟨t, ht, rfl⟩ := List.mem_map.mp hd
    cases t with
    | nil => exact absurd rfl (hn _ ht)
    | cons a r => exact ⟨.int a, (zs r).map .int, rfl⟩
end

/-! the rule -/
def rSortY (K : PySem.W.Frag) : List V → Hp → VK → Prop := fun vs H Q => ∃ (a : Addr) (xs : List V) (ts : List (List Nat)), vs = [V.ref a] ∧ SqL K H a xs ∧ IsAll K H xs (ts.map tD) ∧ (ts.length ≤ 1 ∨ ∀ t ∈ ts, t ≠ []) ∧
  ∀ (p : Addr) (ys : List V), H p = none → IsAll K H ys ((KM.srt ts).map tD) → Q (.ref p) (upd H p (.lst ys))
section
variable {X : Cx} {pins : List (Addr × Obj)} {σ : L2.St} {H : Hp} {s : Shared}
theorem each_of (I : Inv X pins σ H s) : ∀ {xs : List V} {us : List Value} {ts : List (List Nat)}, Vals xs us → IsAll X.K H xs (ts.map tD) →
    EachIs (fun v t => (∃ x : V, RelV x v ∧ Is X.K H x (tD t)) ∧ ∃ as, Reads s.heap v (encT t) as) us ts
  | [], _, [], .nil, _ => .nil
  | x :: xs, _, [], .cons _ _, h => by cases h
  | [], _, t :: ts, _, h => by cases h
  | x :: xs, u :: us, t :: ts, .cons r rt, h => by
    cases h with
    | cons h1 h2 =>
      refine .cons ⟨⟨x, r, h1⟩, ?_⟩ (each_of I rt h2)
      have := Dp.reads I (tD t).py x u (h1.dp (tD_ok t).1) r
      rw [encT_eq] at this
      exact this
theorem vals_of_each {K : PySem.W.Frag} : ∀ {us : List Value} {ts : List (List Nat)}, EachIs (fun v t => (∃ x : V, RelV x v ∧ Is K H x (tD t))) us ts → ∃ xs : List V, Vals xs us ∧ IsAll K H xs (ts.map tD)
  | _, _, .nil => ⟨[], .nil, .nil⟩
  | _, _, .cons ⟨x, r, h⟩ t => by
    obtain ⟨xs, h1, h2⟩ := vals_of_each t
    exact ⟨x :: xs, .cons r h1, .cons h h2⟩
theorem cr_sortY (hu : X.A.units + 64 < cLine) : CallR X (.builtin "sorted") (rSortY X.K) := by
  intro pins s σ H vs us Q I r h
  obtain ⟨a, xs, ts, rfl, hs, ha, hk, q⟩ := h
  obtain ⟨its, rv, hl, hz⟩ := I.list hs
  rw [Vals.ref1 r]
  have e := each_of I rv ha
  have hlen : ts.length ≤ sizeLine := by
    have := ha.length
    rw [List.length_map] at this
    omega
  have er := e.mono fun _ _ h => h.2
  have er' : EachIs (fun v t => ∃ as, Reads (sortingHeap (copyHeap s.heap its) (s.heap.objs.size + 1) its) v (encT t) as) its ts := er.mono fun _ _ ⟨as, r⟩ => ⟨as, PyProof.Rows.Reads.keeps (fun _ _ => sorting_copy_old) r⟩
  have e1 : EachIs (fun v t => ∃ x : V, RelV x v ∧ Is X.K H x (tD t)) its ts := e.mono fun _ _ h => h.1
  refine sorted_vals (κ := dataKind (sortingHeap (copyHeap s.heap its) (s.heap.objs.size + 1) its) (ts.map encT)) hl.isList (sortsT (s := { s with heap := sortingHeap (copyHeap s.heap its) (s.heap.objs.size + 1) its }) er' hk (by show X.A.units + 2 + 1 < cLine; omega)) (by rw [e.length]; exact hlen) ?_
  have eo := sortVals_data (R := fun v t => ∃ x : V, RelV x v ∧ Is X.K H x (tD t)) false e1 er' (encT_alike ts)
  rw [dataLe_encT] at eo
  obtain ⟨ys, y1, y2⟩ := vals_of_each eo
  obtain ⟨out, hout⟩ : ∃ out, out = sortVals (dataKind (sortingHeap (copyHeap s.heap its) (s.heap.objs.size + 1) its) (ts.map encT)) false its its := ⟨_, rfl⟩
  rw [← hout] at y1 ⊢
  obtain ⟨ep, he'⟩ := PyProof.Rows.sortedAll_at s.heap its out.toArray
  have hyl : ys.length ≤ sizeLine := by
    have := y2.length
    rw [List.length_map, (List.mergeSort_perm _ _).length_eq] at this
    omega
  exact ⟨.ref _, upd H (s.heap.objs.size + 1) (.lst ys), I.laid (t' := s.toks) (fun _ _ => PyProof.Rows.sortedAll_old) (Nat.le_succ _) ⟨hyl, out, ep, y1, he'⟩, rfl, q _ ys (I.hok.fresh (Nat.le_succ _)) y2⟩
end
section
variable {K : PySem.W.Frag}
theorem rf_sortY {ts : List (List Nat)} (hk : ts.length ≤ 1 ∨ ∀ t ∈ ts, t ≠ []) : RCf K (rSortY K) [lsD ts] ((KM.srt ts).map tD) := fun vs H h Q q => by
  cases h with
  | cons h t =>
    cases t
    obtain ⟨a, xs, rfl, hs, ha⟩ := h.lst_inv
    exact ⟨a, xs, ts, rfl, hs, ha, hk, fun p ys np hy => q p ys _ np (Ex.new np) upd_same (hy.mono (Ex.new np))⟩
end
end Y
set_option Elab.async false
set_option linter.all false
set_option autoImplicit false
set_option maxRecDepth 100000
set_option maxHeartbeats 1000000
/-! Promises as data, calls, defs. -/
namespace Y
open PySem L2

/-- the promise: from the data ds the datum d (what pre says) -/
def Pure (K : PySem.W.Frag) (pre : List D → D → Prop) : Sp := fun vs H Q _ => ∃ ds d, IsAll K H vs ds ∧ pre ds d ∧ ∀ v H', Ex H H' → Is K H' v d → Q v H'
/-- .. a new list -/
def Fresh (K : PySem.W.Frag) (pre : List D → List D → Prop) : Sp := fun vs H Q _ => ∃ ds l, IsAll K H vs ds ∧ pre ds l ∧ ∀ p ws H', H p = none → Ex H H' → H' p = some (.lst ws) → IsAll K H' ws l → Q (.ref p) H'

/-- a def by its name, called where it raises nothing -/
structure Cl (P : Program) (w : World) (K : PySem.W.Frag) (mg : Str → Option Value) (base : Heap) (k : Nat) (x : Str) (sp : Sp) : Prop where
  ex : ∃ (f : Addr) (fd : FuncData) (ps : List Str), (FnOk P w K mg base CX0 k f fd ps sp ∨ FnOk P w K mg base (L2.CX P w) k f fd ps sp) ∧ mg x = some (.ref f) ∧ PySem.W.keepIn K (.ref f) = true ∧ Binds K fd ps []
section
variable {X : Cx} {k j : Nat} {C : Addr} {x m : Str} {sp : Sp} {p pos apos : Pos} {e o : Expr} {es : List Expr} {ta : TE} {t : TA}
theorem pe_cl (c : Cl X.prog X.w X.K X.mg X.base k x sp) (hr : Room j X.A) (hk : k ≤ j) (hg : Gl X x) (ha : PA X (e :: es) t)
    (hdb : (x == ("__debug__" : Str)) = false := by decide) (he : starEach (e :: es) X.env = (false, eval e X.env) :: starEach es X.env := by rfl) (hpl : (backTo pos (starEach es X.env)).any (·.1) = false := by rfl) :
    PE X (.Call (.Name x p) (e :: es) [] pos) (tCall sp [] E0 t) := by
  obtain ⟨f, fd, ps, F, hm, kp, b⟩ := c.ex
  rcases F with F | F
  · exact pe_call F (hr.mono hk) hg hm kp b .nil pass0 ha hdb he hpl
  · exact pe_call F (hr.mono hk) hg hm kp b .nil passL ha hdb he hpl
theorem pe_cl0 (c : Cl X.prog X.w X.K X.mg X.base k x sp) (hr : Room j X.A) (hk : k ≤ j) (hg : Gl X x)
    (hdb : (x == ("__debug__" : Str)) = false := by decide) : PE X (.Call (.Name x p) [] [] pos) (tCall sp [] E0 tNil) := by
  obtain ⟨f, fd, ps, F, hm, kp, b⟩ := c.ex
  rcases F with F | F
  · exact pe_call0 F (hr.mono hk) hg hm kp b .nil pass0 hdb
  · exact pe_call0 F (hr.mono hk) hg hm kp b .nil passL hdb
end

section
variable {K : PySem.W.Frag} {B : List Addr} {H0 : Hp} {Z : Hp → Prop} {E : List Slot} {ea : TA} {d : D} {l m : List D} {ex : XK}
theorem ep_call {pre : List D → D → Prop} (h : EA K B H0 Z ea E l) (hp : pre l d) : EP K B H0 Z (tCall (Pure K pre) [] ex ea) E d := fun σ H e Q q =>
  h σ H e _ fun vs H1 e1 h1 => ⟨l, d, by rw [List.append_nil]; exact h1, hp, fun v H2 e2 h2 => q v H2 (e1.trans e2) h2⟩
theorem ef_call {pre : List D → List D → Prop} (h : EA K B H0 Z ea E l) (hp : pre l m) : EF K B H0 Z (tCall (Fresh K pre) [] ex ea) E m := fun σ H e Q q =>
  h σ H e _ fun vs H1 e1 h1 => ⟨l, m, by rw [List.append_nil]; exact h1, hp, fun p ws H2 np e2 hp2 h2 => q p ws H2 (e1.back np) (e1.trans e2) hp2 h2⟩
/-- a def's entry -/
def entry (N : List Str) (ds : List D) : List Slot := ds.map .val ++ List.replicate (N.length - ds.length) .no
theorem ows_entry (N : List Str) (ds : List D) : ows (entry N ds) = [] := by
  refine List.eq_nil_iff_forall_not_mem.mpr fun p hp => ?_
  obtain ⟨i, l, h⟩ := mem_ows.mp hp
  have hm := List.mem_of_getElem? h
  unfold entry at hm
  rcases List.mem_append.mp hm with h | h
  · obtain ⟨_, _, h⟩ := List.mem_map.mp h
    cases h
  · have := (List.mem_replicate.mp h).2
    cases this
theorem env_entry {N : List Str} {vs : List V} {ds : List D} {H : Hp} (h : IsAll K H vs ds) (hN : ds.length ≤ N.length) : Env K [] H (fun _ => True) (entry N ds) (start N vs) H := by
  have hl := h.length
  have no : ∀ (i : Nat) (p : Addr) (l : List D), (entry N ds)[i]? = some (.own p l) → False := fun i p l q => by
    have : p ∈ ows (entry N ds) := mem_ows.mpr ⟨i, l, q⟩
    rw [ows_entry] at this
    cases this
  refine ⟨fun a o _ q => q, fun i j p l m h1 h2 => (no i p l h1).elim, fun i p l q => (no i p l q).elim, ?_, fun i d q => ?_, fun i p l q => (no i p l q).elim, trivial, fun _ _ => trivial⟩
  · simp [L2.start, entry, hl]
  · rw [ows_entry, hid_nil]
    unfold entry at q
    by_cases hi : i < ds.length
    · rw [List.getElem?_append_left (by simpa using hi), List.getElem?_map] at q
      cases e : ds[i]? with
      | none => rw [e] at q; cases q
      | some d' =>
        rw [e] at q
        have : d' = d := by simpa using q
        subst this
        obtain ⟨v, h1, h2⟩ := h.getD e
        refine ⟨v, ?_, h2⟩
        unfold L2.start
        rw [List.getElem?_append_left (by simpa [hl] using hi), List.getElem?_map, h1]
        rfl
    · rw [List.getElem?_append_right (by simpa using hi)] at q
      have := List.mem_of_getElem? q
      have := (List.mem_replicate.mp this).2
      cases this
end

/-- the ends of a pure def's body -/
structure Ok (K : PySem.W.Frag) (H : Hp) (D : Ends) (d : Y.D) : Prop where
  rt : RT K [] H D d
  nx : d = .non → ∀ σ H', Ex H H' → D.nx σ H'
theorem sd_end {K : PySem.W.Frag} {H : Hp} {Z : Hp → Prop} {E : List Slot} {D : Ends} (o : Ok K H D .non) : SD K [] H Z tNext D E := fun σ H' e => o.nx rfl σ H' fun a u q => e.ex a u (by simp) q
section
variable {P : Program} {w : World} {K : PySem.W.Frag} {mg : Str → Option Value} {base : Heap}
theorem pure_ok {x qual : Str} {st : Stmt} {f : Addr} {fd : FuncData} {N ps : List Str} {k : Nat} {pre : List D → D → Prop} (F : Fun K x qual st f fd) (S : FnScope N ps (defScope st)) (len : ∀ ds d, pre ds d → ds.length = ps.length) (hN : ps.length ≤ N.length)
    (hb : ∀ (cdv : Value) (A : Around) (outer : List PySem.Env) (s : Shared) (H : Hp) (E : XK), Room k (A.deeper (PyProof.Rows.envOfC qual (defScope st) s.heap.objs.size f cdv)) →
      ∃ t, PSs (cxOf CX0 P w K mg base N qual (defScope st) f cdv A outer s H E).nox (defBody st) t ∧ ∀ ds d, pre ds d → ∀ D : Ends, Ok K H D d → SD K [] H (fun _ => True) t D (entry N ds)) :
    FnOk P w K mg base CX0 (k + 1) f fd ps (Pure K pre) := by
  refine F.ok S (fun vs H Q E h => ?_) (fun cdv A outer s H vs Q E hr h => ?_)
  · obtain ⟨ds, d, h1, h2, _⟩ := h
    rw [h1.length]
    exact len ds d h2
  · obtain ⟨t, ht, hs⟩ := hb cdv A outer s H E hr
    refine ⟨t, ht, ?_⟩
    obtain ⟨ds, d, h1, h2, h3⟩ := h
    refine hs ds d h2 _ ⟨fun v H' e i => h3 v H' (fun a o q => e a o (by simp) q) i, fun hd σ H' e => h3 .non H' e (hd ▸ .non)⟩ _ _ (env_entry h1 ?_)
    have := len ds d h2
    omega
/-- the ends of a def that hands back a new list -/
structure OkF (K : PySem.W.Frag) (H : Hp) (D : Ends) (l : List Y.D) : Prop where
  rt : RTF K [] H D l
theorem fresh_ok {x qual : Str} {st : Stmt} {f : Addr} {fd : FuncData} {N ps : List Str} {k : Nat} {pre : List D → List D → Prop} (F : Fun K x qual st f fd) (S : FnScope N ps (defScope st)) (len : ∀ ds d, pre ds d → ds.length = ps.length) (hN : ps.length ≤ N.length)
    (hb : ∀ (cdv : Value) (A : Around) (outer : List PySem.Env) (s : Shared) (H : Hp) (E : XK), Room k (A.deeper (PyProof.Rows.envOfC qual (defScope st) s.heap.objs.size f cdv)) →
      ∃ t, PSs (cxOf CX0 P w K mg base N qual (defScope st) f cdv A outer s H E).nox (defBody st) t ∧ ∀ ds l, pre ds l → ∀ D : Ends, OkF K H D l → SD K [] H (fun _ => True) t D (entry N ds)) :
    FnOk P w K mg base CX0 (k + 1) f fd ps (Fresh K pre) := by
  refine F.ok S (fun vs H Q E h => ?_) (fun cdv A outer s H vs Q E hr h => ?_)
  · obtain ⟨ds, d, h1, h2, _⟩ := h
    rw [h1.length]
    exact len ds d h2
  · obtain ⟨t, ht, hs⟩ := hb cdv A outer s H E hr
    refine ⟨t, ht, ?_⟩
    obtain ⟨ds, l, h1, h2, h3⟩ := h
    refine hs ds l h2 _ ⟨fun p ws H' np e hp i => h3 p ws H' (np (by simp)) (fun a o q => e a o (by simp) q) hp i⟩ _ _ (env_entry h1 ?_)
    have := len ds l h2
    omega
end
end Y
set_option Elab.async false
set_option linter.all false
set_option autoImplicit false
set_option maxRecDepth 100000
set_option maxHeartbeats 1000000
/-! Numbers that are not negative; slots forgotten. -/
namespace Y
open PySem L2
/-- a number -/
abbrev iD (n : Nat) : D := .int (n : Int)
/-- a list of numbers -/
def nD (l : List Nat) : D := .lst (l.map iD)
theorem tD_eq (l : List Nat) : tD l = .tup (l.map iD) := by
  show D.tup ((zs l).map D.int) = _
  rw [zs, List.map_map]
  rfl
theorem nD_eq (l : List Nat) : nD l = .lst ((zs l).map D.int) := by
  show D.lst _ = _
  rw [zs, List.map_map]
  rfl
theorem imAll_nD (l : List Nat) : imAll (l.map iD) = true := by
  rw [imAll_iff]
  intro d hd
  obtain ⟨n, _, rfl⟩ := List.mem_map.mp hd
  rfl
theorem imAll_append {l m : List D} (a : imAll l = true) (b : imAll m = true) : imAll (l ++ m) = true := by
  rw [imAll_iff] at *
  intro d hd
  rcases List.mem_append.mp hd with h | h
  · exact a d h
  · exact b d h
theorem imAll_map {α : Type} {c : α → D} (h : ∀ a, (c a).im = true) (l : List α) : imAll (l.map c) = true := by
  rw [imAll_iff]
  intro d hd
  obtain ⟨a, _, rfl⟩ := List.mem_map.mp hd
  exact h a
section
variable {K : PySem.W.Frag} {B : List Addr} {H0 : Hp} {Z : Hp → Prop} {E E' : List Slot} {ta tb tc te : TE} {t u : TT} {ea : TA} {x y z d : D} {l m : List D} {a b c : Nat} {ns : List Nat}
theorem r2_and : R2d K (rI0 fun i j => .int (Builtin.bitAnd i j)) (iD a) (iD b) (iD (a &&& b)) := by
  have h := r2_int (K := K) (g := fun i j => Builtin.bitAnd i j) (i := (a : Int)) (j := (b : Int))
  have e : Builtin.bitAnd (a : Int) (b : Int) = ((a &&& b : Nat) : Int) := PySem.W.os_band a b
  rw [e] at h
  exact h
theorem r2_or : R2d K (rI0 fun i j => .int (Builtin.bitOr i j)) (iD a) (iD b) (iD (a ||| b)) := by
  have h := r2_int (K := K) (g := fun i j => Builtin.bitOr i j) (i := (a : Int)) (j := (b : Int))
  have e : Builtin.bitOr (a : Int) (b : Int) = ((a ||| b : Nat) : Int) := by
    rw [bitOr_nn (Int.natCast_nonneg _) (Int.natCast_nonneg _), Int.toNat_natCast, Int.toNat_natCast]
  rw [e] at h
  exact h
theorem r2_shl1 (h : a < 100000) : R2d K (rI CShl fun i j => .int (i * 2 ^ j.toNat)) (.int 1) (iD a) (iD (2 ^ a)) := by
  have h := r2_intC (K := K) (C := CShl) (g := fun i j => i * 2 ^ j.toNat) (i := 1) (j := (a : Int)) (shl_ok (n := 2) (by decide) (by omega))
  have e : (1 : Int) * 2 ^ ((a : Int)).toNat = ((2 ^ a : Nat) : Int) := by simp
  rw [e] at h
  exact h
theorem r2_shr : R2d K (rI (fun _ j => 0 ≤ j) fun i j => .int (i / 2 ^ j.toNat)) (iD a) (iD b) (iD (a >>> b)) := by
  have h := r2_intC (K := K) (C := fun _ j => 0 ≤ j) (g := fun i j => i / 2 ^ j.toNat) (i := (a : Int)) (j := (b : Int)) (Int.natCast_nonneg _)
  have e : (a : Int) / 2 ^ ((b : Int)).toNat = ((a >>> b : Nat) : Int) := by simp [Nat.shiftRight_eq_div_pow]
  rw [e] at h
  exact h
theorem dec_cast {a b : Nat} : decide ((a : Int) = (b : Int)) = (a == b) := by
  by_cases h : a = b
  · subst h; simp
  · have h2 : ¬ (a : Int) = (b : Int) := by omega
    simp [h, h2]
theorem r2_eqN : R2d K rEq (iD a) (iD b) (.bl (a == b)) := by
  have h := r2_eqI (K := K) (i := (a : Int)) (j := (b : Int))
  rw [dec_cast] at h
  exact h
theorem r2_neN : R2d K rNe (iD a) (iD b) (.bl (a != b)) := by
  have h := r2_neI (K := K) (i := (a : Int)) (j := (b : Int))
  rw [dec_cast] at h
  exact h
theorem ep_nat {n : Nat} : EP K B H0 Z (tC (.int (n : Int))) E (iD n) := ep_int
theorem ep_n0 : EP K B H0 Z (tC (.int 0)) E (iD 0) := ep_int
theorem ep_n1 : EP K B H0 Z (tC (.int 1)) E (iD 1) := ep_int
theorem zs_sort (l : List Nat) : srtI (zs l) = zs (KM.sortN l) := by
  unfold srtI KM.sortN zs
  exact (List.map_mergeSort (r := fun a b => decide (a ≤ b)) (s := fun a b : Int => decide (a ≤ b)) (f := fun (n : Nat) => (n : Int)) (fun a _ b _ => by simp)).symm
theorem rf_sortedN : RCf K (rSortedI K) [nD ns] ((KM.sortN ns).map iD) := by
  have h := rf_sortedI (K := K) (y := nD ns) (ns := zs ns) (nD_eq ns)
  rw [zs_sort] at h
  have e : (zs (KM.sortN ns)).map D.int = (KM.sortN ns).map iD := by
    rw [zs, List.map_map]
    rfl
  rw [e] at h
  exact h
theorem rc_allN {bs : List Nat} {p : Nat → Bool} : RCd K (rAll K) [.lst (bs.map fun n => .bl (p n))] (.bl (bs.all p)) := by
  have h := rc_all (K := K) (bs := bs.map p)
  rw [List.map_map] at h
  have e : (bs.map p).all id = bs.all p := by rw [List.all_map]; rfl
  rw [e] at h
  exact h
theorem rc_allL {α : Type} {bs : List α} {p : α → Bool} : RCd K (rAll K) [.lst (bs.map fun n => .bl (p n))] (.bl (bs.all p)) := by
  have h := rc_all (K := K) (bs := bs.map p)
  rw [List.map_map] at h
  have e : (bs.map p).all id = bs.all p := by rw [List.all_map]; rfl
  rw [e] at h
  exact h
theorem rc_anyL {α : Type} {bs : List α} {p : α → Bool} : RCd K (rAny K) [.lst (bs.map fun n => .bl (p n))] (.bl (bs.any p)) := by
  have h := rc_any (K := K) (bs := bs.map p)
  rw [List.map_map] at h
  have e : (bs.map p).any id = bs.any p := by rw [List.any_map]; rfl
  rw [e] at h
  exact h
theorem rc_lenLn {α : Type} {bs : List α} {g : α → D} : RCd K (fun xs H Q => ∃ p ys, xs = [.ref p] ∧ (SqL K H p ys ∨ SqT K H p ys) ∧ Q (.int ys.length) H) [.lst (bs.map g)] (iD bs.length) := by
  have h := rc_lenL (K := K) (l := bs.map g)
  rw [List.length_map] at h
  exact h
theorem rc_lenTn {α : Type} {bs : List α} {g : α → D} : RCd K (fun xs H Q => ∃ p ys, xs = [.ref p] ∧ (SqL K H p ys ∨ SqT K H p ys) ∧ Q (.int ys.length) H) [.tup (bs.map g)] (iD bs.length) := by
  have h := rc_lenT (K := K) (l := bs.map g)
  rw [List.length_map] at h
  exact h
/-- x.bit_length() -/
theorem ep_bits (h : EP K B H0 Z te E (iD a)) : EP K B H0 Z (tBits te) E (iD (KM.bitLen a)) := fun σ H e Q q => h σ H e _ fun v H1 e1 h1 => by
  cases h1
  refine ⟨_, rfl, ?_⟩
  have e : Builtin.Int.intBits (a : Int) = KM.bitLen a := by
    unfold Builtin.Int.intBits KM.bitLen
    by_cases h : a = 0
    · subst h; rfl
    · have : ¬ (a : Int) = 0 := by omega
      simp [h, this]
  rw [e]
  exact q _ H1 e1 (.int _)
/-! slots forgotten -/
inductive LeE : List Slot → List Slot → Prop
  | nil : LeE [] []
  | eq {s : Slot} {E E' : List Slot} : LeE E E' → LeE (s :: E) (s :: E')
  | no {s : Slot} {E E' : List Slot} : LeE E E' → LeE (s :: E) (.no :: E')
theorem LeE.refl : ∀ (E : List Slot), LeE E E
  | [] => .nil
  | _ :: E => .eq (LeE.refl E)
theorem LeE.at_ : ∀ {E E' : List Slot}, LeE E E' → E.length = E'.length ∧ ∀ (i : Nat) (s : Slot), E'[i]? = some s → s = .no ∨ E[i]? = some s
  | _, _, .nil => ⟨rfl, fun i s h => by simp at h⟩
  | _, _, .eq h => ⟨by simp [h.at_.1], fun i s q => by
    cases i with
    | zero => exact .inr q
    | succ i => exact h.at_.2 i s (by simpa using q) |>.imp id (by simpa using ·)⟩
  | _, _, .no h => ⟨by simp [h.at_.1], fun i s q => by
    cases i with
    | zero => simp at q; exact .inl q.symm
    | succ i => exact h.at_.2 i s (by simpa using q) |>.imp id (by simpa using ·)⟩
theorem Env.le {σ : L2.St} {H : Hp} (e : Env K B H0 Z E σ H) (h : LeE E E') : Env K B H0 Z E' σ H := by
  obtain ⟨hl, ha⟩ := h.at_
  have own : ∀ {i : Nat} {p : Addr} {l : List D}, E'[i]? = some (.own p l) → E[i]? = some (.own p l) := fun {i p l} q => (ha i _ q).resolve_left (by simp)
  have sb : Ex (hid (ows E) H) (hid (ows E') H) := hid_sub fun a m => by
    obtain ⟨i, l, q⟩ := mem_ows.mp m
    exact mem_ows.mpr ⟨i, l, own q⟩
  refine ⟨e.ex, fun i j p l m h1 h2 => e.inj i j p l m (own h1) (own h2), fun i p l h1 => e.fr i p l (own h1), by rw [e.len, hl], fun i d q => ?_, fun i p l q => ?_, e.zm sb e.pin, e.zm⟩
  · obtain ⟨v, h1, h2⟩ := e.val i d ((ha i _ q).resolve_left (by simp))
    exact ⟨v, h1, h2.mono sb⟩
  · obtain ⟨h1, vs, h2, h3⟩ := e.own i p l (own q)
    exact ⟨h1, vs, h2, h3.mono sb⟩
variable {De : Ends}
theorem sd_leF (h : LeE E E') : SD K B H0 Z tNext (LE K B H0 Z De E') E := fun σ H e => e.le h
theorem sd_ctF (h : LeE E E') : SD K B H0 Z tCont (LE K B H0 Z De E') E := fun σ H e => e.le h
theorem sd_weak {tx : TS} (h : LeE E E') (k : SD K B H0 Z tx De E') : SD K B H0 Z tx De E := fun σ H e => k σ H (e.le h)
end
end Y
set_option Elab.async false
set_option linter.all false
set_option autoImplicit false
set_option maxRecDepth 100000
set_option maxHeartbeats 1000000
/-! Loops that may be left early: a fact carried from turn to turn; tuples and lists of a range. -/
namespace Y
open PySem L2
section
variable {K : PySem.W.Frag} {B : List Addr} {H0 : Hp} {Z : Hp → Prop} {E E' : List Slot} {ta tb tc te : TE} {t u : TT} {ea : TA} {x y z d : D} {l m : List D} {b c : Bool}
variable {De : Ends} {tu : TS}
/-- as LE, with a fact -/
def LP (K : PySem.W.Frag) (B : List Addr) (H0 : Hp) (Z : Hp → Prop) (De : Ends) (p : Prop) (E' : List Slot) : Ends :=
  { nx := fun σ H => p ∧ Env K B H0 Z E' σ H, rt := De.rt, bk := De.nx, ct := fun σ H => p ∧ Env K B H0 Z E' σ H }
theorem sd_lp {p : Prop} (hp : p) (h : LeE E E') : SD K B H0 Z tNext (LP K B H0 Z De p E') E := fun σ H e => ⟨hp, e.le h⟩
theorem sd_forLP {α : Type} {j : Nat} (c : α → D) {ts : List α} (Pi : Nat → Prop) (h : EC K B H0 Z te E (.lst (ts.map c))) (Ei : Nat → List Slot) (h0 : E = Ei 0) (p0 : Pi 0)
    (hs : ∀ (Z' : Hp → Prop) i a, ts[i]? = some a → Pi i → SD K B H0 Z' tu (LP K B H0 Z' De (Pi (i + 1)) (Ei (i + 1))) ((Ei i).set j (.val (c a))))
    (hd : Pi ts.length → SD K B H0 Z tNext De (Ei ts.length)) : SD K B H0 Z (tFor (iList K te) (gName j) tu) De E := fun σ H e =>
  h σ H e _ fun v H1 e1 h1 => by
    have e' := e.ext e1
    cases h1 with
    | lst hq ht =>
      rename_i a xs
      refine ⟨a, rfl, ⟨xs, sqL_ex (hid_le _ _) hq⟩, ?_⟩
      have hl : xs.length = ts.length := by rw [ht.length, List.length_map]
      refine for_list (xs := xs) (fun i σ' H' => Pi i ∧ Env K B H0 (fun H => Z H ∧ SqL K H a xs ∧ IsAll K H xs (ts.map c)) (Ei i) σ' H') ?_ (fun i σ' H' _ p => sqL_ex (hid_le _ _) p.2.pin.2.1) ?_ ?_
      · rw [← h0]
        exact ⟨p0, e'.ex, e'.inj, e'.fr, e'.len, e'.val, e'.own, ⟨e'.pin, hq, ht⟩, fun x q => ⟨e.zm x q.1, sqL_ex x q.2.1, q.2.2.mono x⟩⟩
      · rintro i x σ' H' hx ⟨pi, p⟩
        obtain ⟨d, hd1, hd2⟩ := p.pin.2.2.get hx
        obtain ⟨r, hr, rfl⟩ := map_at hd1
        exact hs _ i r hr pi _ _ (p.setC hd2)
      · rintro σ' H' ⟨pi, p⟩
        rw [hl] at p pi
        exact hd pi _ _ (p.drop e.zm)
theorem sd_forRP {j : Nat} {n : Int} (Pi : Nat → Prop) (h : EA K B H0 Z ea E [.int n]) (hn : 0 ≤ n ∧ n ≤ 100000) (Ei : Nat → List Slot) (h0 : E = Ei 0) (p0 : Pi 0)
    (hs : ∀ (i : Nat), (i : Int) < n → Pi i → SD K B H0 Z tu (LP K B H0 Z De (Pi (i + 1)) (Ei (i + 1))) ((Ei i).set j (.val (.int i))))
    (hd : Pi n.toNat → SD K B H0 Z tNext De (Ei n.toNat)) : SD K B H0 Z (tFor (iRng1 ea) (gName j) tu) De E := fun σ H e =>
  h σ H e _ fun vs H1 e1 h1 => by
    have e' := e.ext e1
    have : vs = [.int n] := by
      cases h1 with
      | cons a t => cases a; cases t; rfl
    subst this
    refine ⟨n, rfl, by omega, by omega, for_range (lo := 0) (n := n.toNat) (fun i σ' H' => Pi i ∧ Env K B H0 Z (Ei i) σ' H') ⟨p0, h0 ▸ e'⟩ (fun i σ' H' hi p => ?_) (fun σ' H' p => hd p.1 _ _ p.2)⟩
    have e0 : (0 : Int) + (i : Int) = (i : Int) := Int.zero_add _
    show tu _ (σ'.set j (some (.int ((0 : Int) + (i : Int))))) H'
    rw [e0]
    exact hs i (by omega) p.1 _ _ (p.2.set (.int _) rfl)
/-! the same with a word about the slots -/
def LW (K : PySem.W.Frag) (B : List Addr) (H0 : Hp) (Z : Hp → Prop) (De : Ends) (W : List Slot → Prop) : Ends :=
  { nx := fun σ H => ∃ E, W E ∧ Env K B H0 Z E σ H, rt := De.rt, bk := De.nx, ct := fun σ H => ∃ E, W E ∧ Env K B H0 Z E σ H }
theorem sd_lw {W : List Slot → Prop} (hw : W E') (h : LeE E E') : SD K B H0 Z tNext (LW K B H0 Z De W) E := fun σ H e => ⟨E', hw, e.le h⟩
theorem sd_lwc {W : List Slot → Prop} (hw : W E') (h : LeE E E') : SD K B H0 Z tCont (LW K B H0 Z De W) E := fun σ H e => ⟨E', hw, e.le h⟩
theorem sd_forLW {α : Type} {j : Nat} (c : α → D) {ts : List α} (W : Nat → List Slot → Prop) (h : EC K B H0 Z te E (.lst (ts.map c))) (h0 : W 0 E)
    (hs : ∀ (Z' : Hp → Prop) i a E, ts[i]? = some a → W i E → SD K B H0 Z' tu (LW K B H0 Z' De (W (i + 1))) (E.set j (.val (c a))))
    (hd : ∀ E, W ts.length E → SD K B H0 Z tNext De E) : SD K B H0 Z (tFor (iList K te) (gName j) tu) De E := fun σ H e =>
  h σ H e _ fun v H1 e1 h1 => by
    have e' := e.ext e1
    cases h1 with
    | lst hq ht =>
      rename_i a xs
      refine ⟨a, rfl, ⟨xs, sqL_ex (hid_le _ _) hq⟩, ?_⟩
      have hl : xs.length = ts.length := by rw [ht.length, List.length_map]
      refine for_list (xs := xs) (fun i σ' H' => ∃ E, W i E ∧ Env K B H0 (fun H => Z H ∧ SqL K H a xs ∧ IsAll K H xs (ts.map c)) E σ' H') ?_ (fun i σ' H' _ ⟨_, _, p⟩ => sqL_ex (hid_le _ _) p.pin.2.1) ?_ ?_
      · exact ⟨E, h0, e'.ex, e'.inj, e'.fr, e'.len, e'.val, e'.own, ⟨e'.pin, hq, ht⟩, fun x q => ⟨e.zm x q.1, sqL_ex x q.2.1, q.2.2.mono x⟩⟩
      · rintro i x σ' H' hx ⟨E1, pi, p⟩
        obtain ⟨d, hd1, hd2⟩ := p.pin.2.2.get hx
        obtain ⟨r, hr, rfl⟩ := map_at hd1
        exact hs _ i r E1 hr pi _ _ (p.setC hd2)
      · rintro σ' H' ⟨E1, pi, p⟩
        rw [hl] at pi
        exact hd E1 pi _ _ (p.drop e.zm)
theorem sd_forTW {α : Type} {j : Nat} (c : α → D) {ts : List α} (W : Nat → List Slot → Prop) (h : EC K B H0 Z te E (.tup (ts.map c))) (h0 : W 0 E)
    (hs : ∀ (Z' : Hp → Prop) i a E, ts[i]? = some a → W i E → SD K B H0 Z' tu (LW K B H0 Z' De (W (i + 1))) (E.set j (.val (c a))))
    (hd : ∀ E, W ts.length E → SD K B H0 Z tNext De E) : SD K B H0 Z (tFor (iTup K te) (gName j) tu) De E := fun σ H e =>
  h σ H e _ fun v H1 e1 h1 => by
    have e' := e.ext e1
    cases h1 with
    | tup hq ht =>
      rename_i a xs
      refine ⟨a, rfl, ⟨xs, sqT_ex (hid_le _ _) hq⟩, ?_⟩
      have hl : xs.length = ts.length := by rw [ht.length, List.length_map]
      refine for_tup (xs := xs) (fun i σ' H' => ∃ E, W i E ∧ Env K B H0 (fun H => Z H ∧ SqT K H a xs ∧ IsAll K H xs (ts.map c)) E σ' H') ?_ (fun i σ' H' _ ⟨_, _, p⟩ => sqT_ex (hid_le _ _) p.pin.2.1) ?_ ?_
      · exact ⟨E, h0, e'.ex, e'.inj, e'.fr, e'.len, e'.val, e'.own, ⟨e'.pin, hq, ht⟩, fun x q => ⟨e.zm x q.1, sqT_ex x q.2.1, q.2.2.mono x⟩⟩
      · rintro i x σ' H' hx ⟨E1, pi, p⟩
        obtain ⟨d, hd1, hd2⟩ := p.pin.2.2.get hx
        obtain ⟨r, hr, rfl⟩ := map_at hd1
        exact hs _ i r E1 hr pi _ _ (p.setC hd2)
      · rintro σ' H' ⟨E1, pi, p⟩
        rw [hl] at pi
        exact hd E1 pi _ _ (p.drop e.zm)
theorem sd_forRW {j : Nat} {n : Int} (W : Nat → List Slot → Prop) (h : EA K B H0 Z ea E [.int n]) (hn : 0 ≤ n ∧ n ≤ 100000) (h0 : W 0 E)
    (hs : ∀ (i : Nat) E, (i : Int) < n → W i E → SD K B H0 Z tu (LW K B H0 Z De (W (i + 1))) (E.set j (.val (.int i))))
    (hd : ∀ E, W n.toNat E → SD K B H0 Z tNext De E) : SD K B H0 Z (tFor (iRng1 ea) (gName j) tu) De E := fun σ H e =>
  h σ H e _ fun vs H1 e1 h1 => by
    have e' := e.ext e1
    have : vs = [.int n] := by
      cases h1 with
      | cons a t => cases a; cases t; rfl
    subst this
    refine ⟨n, rfl, by omega, by omega, for_range (lo := 0) (n := n.toNat) (fun i σ' H' => ∃ E, W i E ∧ Env K B H0 Z E σ' H') ⟨E, h0, e'⟩ (fun i σ' H' hi ⟨E1, pi, p⟩ => ?_) (fun σ' H' ⟨E1, pi, p⟩ => hd E1 pi _ _ p)⟩
    have e0 : (0 : Int) + (i : Int) = (i : Int) := Int.zero_add _
    show tu _ (σ'.set j (some (.int ((0 : Int) + (i : Int))))) H'
    rw [e0]
    exact hs i E1 (by omega) pi _ _ (p.set (.int _) rfl)
/-! a range as a tuple, a list -/
theorem isAll_rg {H : Hp} (lo hi : Int) : IsAll K H (rgV lo hi) ((List.range (hi - lo).toNat).map fun (i : Nat) => D.int (lo + (i : Int))) := by
  unfold rgV
  induction List.range (hi - lo).toNat with
  | nil => exact .nil
  | cons a r ih => exact .cons (.int _) ih
theorem ep_tupRg2 {lo hi : Int} (ha : EP K B H0 Z ta E (.int lo)) (hb : EP K B H0 Z tb E (.int hi)) (hz : 0 ≤ lo ∧ lo ≤ 100000 ∧ 0 ≤ hi ∧ hi ≤ 100000) :
    EP K B H0 Z (tTupRg (tRg2 ta tb)) E (.tup ((List.range (hi - lo).toNat).map fun (i : Nat) => D.int (lo + (i : Int)))) := fun σ H e Q q =>
  ha σ H e _ fun v H1 e1 h1 => hb σ H1 (e.ext e1) _ fun u H2 e2 h2 => by
    cases h1; cases h2
    exact ⟨lo, hi, rfl, rfl, RgOk.of_le (by omega) (by omega) (by omega) (by omega), fun p np => q _ _ ((e1.trans e2).trans (Ex.new np)) (.tup (SqT.of upd_same) (isAll_rg lo hi))⟩
theorem ef_lstRg1 {hi : Int} (ha : EP K B H0 Z ta E (.int hi)) (hz : 0 ≤ hi ∧ hi ≤ 100000) :
    EF K B H0 Z (tLstRg (tRg1 ta)) E ((List.range hi.toNat).map fun (i : Nat) => D.int (i : Int)) := fun σ H e Q q =>
  ha σ H e _ fun v H1 e1 h1 => by
    cases h1
    have hr := isAll_rg (K := K) (H := H1) 0 hi
    have e0 : ((List.range (hi - 0).toNat).map fun (i : Nat) => D.int ((0 : Int) + (i : Int))) = ((List.range hi.toNat).map fun (i : Nat) => D.int (i : Int)) := by simp
    rw [e0] at hr
    exact ⟨hi, rfl, RgOk.of_le (by omega) (by omega) (by omega) (by omega), fun p np => q p _ _ (e1.back np) (e1.trans (Ex.new np)) upd_same (hr.mono (Ex.new np))⟩
end
end Y
namespace Y
open PySem L2
/-! readings by names, the written part told -/
def rLen (K : PySem.W.Frag) : List V → Hp → VK → Prop := fun xs H Q => ∃ p ys, xs = [.ref p] ∧ (SqL K H p ys ∨ SqT K H p ys) ∧ Q (.int ys.length) H
def rTupOf (K : PySem.W.Frag) : List V → Hp → VK → Prop := fun xs H Q => ∃ p ys, xs = [.ref p] ∧ ((SqL K H p ys ∧ ∀ l, H l = none → Q (.ref l) (upd H l (.tup ys))) ∨ (SqT K H p ys ∧ Q (.ref p) H))
def rLstOf (K : PySem.W.Frag) : List V → Hp → VK → Prop := fun xs H Q => ∃ p ys, xs = [.ref p] ∧ (SqL K H p ys ∨ SqT K H p ys) ∧ ∀ l, H l = none → Q (.ref l) (upd H l (.lst ys))
section
variable {X : Cx}
theorem call_lenY : CallR X (.builtin "len") (rLen X.K) := call_len_seq
theorem call_tupY : CallR X (.type "tuple") (rTupOf X.K) := call_tuple_of
theorem call_lstY : CallR X (.type "list") (rLstOf X.K) := call_list_of
end
end Y
set_option Elab.async false
set_option linter.all false
set_option autoImplicit false
set_option maxRecDepth 100000
set_option maxHeartbeats 2000000
/-! An own exception class over Exception whose __init__ calls super().__init__(f"..{place}") and keeps place: made. -/
namespace Y
open PySem PySem.W PySem.Calls PyProof.Rows Builtin.ObjectAttr
/-- Exception's mro -/
abbrev excB : List Value := [.type "Exception", .type "BaseException", .type "object"]
/-- the body of such an __init__ -/
def excBody (txt : Str) (j : Nat) (p0 p1 p2 p3 p4 p5 p6 p7 p8 p9 p10 p11 p12 : Pos) : List Stmt :=
  [.Expr (.Call (.Attribute (.Call (.Name "super" p0) [] [] p1) "__init__" p2) [.JoinedStr [.Constant (.str txt) j p3, .FormattedValue (.Name "place" p4) (-1) none p5] p6] [] p7) p8,
   .Assign [.Attribute (.Name "self" p9) "place" p10] (.Name "place" p11) p12]
def excScope : Scope := { kind := .function, names := [("self", .local), ("place", .local), ("__class__", .free), ("super", .globalImplicit)], isGenerator := false, isCoroutine := false, more := [] }
/-- the class at C, its __init__ at f -/
structure ExcK (K : Frag) (P : Program) (C f : Addr) (txt : Str) : Prop where
  ini : findIn K (.ref C) "__init__" = some (some (.ref f))
  own : excInitIn K C excB "Exception.__new__" = true
  ovr : excOver K C excB = true
  fn : isFn K (.ref f) = true
  def_ : ∃ (oc : Value) (od : Option Addr) (qual : Str) (par : Arguments) (dV kV doc pm ct : Value) (an : Option Addr) (cda cc : Addr) (osl : Array (Option Value)) (j : Nat) (p0 p1 p2 p3 p4 p5 p6 p7 p8 p9 p10 p11 p12 : Pos) (ar : Arg),
    K.lookup f = some ⟨oc, od, .func (ksFn "__init__" qual par (excBody txt j p0 p1 p2 p3 p4 p5 p6 p7 p8 p9 p10 p11 p12) excScope dV kV doc pm an (.ref cda) ct cc), osl⟩ ∧ codeIn K (.ref cda) qual = true ∧
      (∀ u v : Value, bindArgs (ksFn "__init__" qual par (excBody txt j p0 p1 p2 p3 p4 p5 p6 p7 p8 p9 p10 p11 p12) excScope dV kV doc pm an (.ref cda) ct cc) ⟨[u, v], []⟩ = (pure [(("self" : Str), u), (("place" : Str), v)] : Sem (List (Str × Value)))) ∧
      (par.posonlyargs ++ par.args).head? = some ar ∧ ar.arg = "self" ∧
      (∃ ccl cdd vs ccs file tf, K.lookup cda = some ⟨ccl, cdd, .fields vs, ccs⟩ ∧ vs[2]? = some (.str file tf) ∧ ((P.main.file : Str) == file) = true) ∧
      (∀ L : Addr, ∃ pl : Sem Bool, eval (.Call (.Attribute (.Call (.Name "super" p0) [] [] p1) "__init__" p2) [.JoinedStr [.Constant (.str txt) j p3, .FormattedValue (.Name "place" p4) (-1) none p5] p6] [] p7) (ksEnv qual excScope L f (.ref cda) cc) = (do
      let ov ← attributeBase (.Call (.Name "super" p0) [] [] p1) "__init__" (ksEnv qual excScope L f (.ref cda) cc) (eval (.Call (.Name "super" p0) [] [] p1) (ksEnv qual excScope L f (.ref cda) cc))
      standAt p2.atName
      let (fm, first) ← holding [ov] (getMethod ov "__init__" pl)
      callWith p7 fm first (backTo p7 (starEach [.JoinedStr [.Constant (.str txt) j p3, .FormattedValue (.Name "place" p4) (-1) none p5] p6] (ksEnv qual excScope L f (.ref cda) cc))) [])) ∧
      ∃ cl cld csl, K.lookup cc = some ⟨cl, cld, .cell (some (.ref C)), csl⟩
  sup : ks_superIn K C C "__init__" = some (some (.builtin "Exception.__init__"))
  opq : nsIn K cStatics "thirdparty.any" = some none
  sub : subIn K (.ref C) (.type "Exception") = some true
  slf : mroIn K C (.ref C) = some true
  sa : findIn K (.ref C) "__setattr__" = some (some (.builtin "object.__setattr__"))
  tk : takerIn K C "place" = some none
  hd : hasDictIn K C = true
  exC : subIn K (.ref C) (.type "BaseException") = some true
  tyC : typeIn K (.ref C) = some (.type "type")
  kC : keepIn K (.ref C) = true
  top : (P.main.scope.names.lookup ("super" : Str)).isSome = false
section
variable {P : Program} {w : World} {K : Frag} {C f : Addr} {txt : Str} {mg mb : Str → Option Value}
theorem exc_store {A : Around} {E : Value → Shared → Prop} {s : Shared} {x t : Addr} {v : Value} {Q : Unit → Shared → Prop} (c : ExcK K P C f txt) (X : K.In s.heap) (hx : s.heap.get? x = some (excObj C t none .none))
    (q : ∀ dx h' tk, (∀ b o, b ≠ x → s.heap.get? b = some o → h'.get? b = some o) → s.heap.objs.size ≤ dx → h'.get? x = some (excObj C t (some dx) .none) → h'.Ns1 dx (fun y => if y = "place" then some v else none) → Q () { s with heap := h', toks := tk }) :
    wpAny (model P w) A (setAttr (.ref x) "place" v) Q E s := by
  have I : InstAt s.heap x (excObj C t none .none) C none := ⟨hx, rfl, rfl, trivial⟩
  obtain ⟨cd, hcd, hdd⟩ := any_some c.hd
  have xs : x ≠ s.heap.objs.size := Nat.ne_of_lt (Heap.lt_size hx)
  obtain ⟨h, g, d, tk0, os⟩ := s
  refine set_plain X I c.sa (osa_openX (od := none) PySem.F.store_Exception X I c.ovr c.tk fun b => ?_)
  refine wpAny_bind (wpAny_pure (wpAny_bind (instanceDict_exc hx (looks_clsIn X hcd) hdd ?_)))
  show wpAny _ _ (storeInDict h.objs.size _ _ v) _ _ _
  have hx1 : (h.push (dictOf [] 0)).get? x = some (excObj C t none .none) := Heap.get?_push_of_some _ hx
  refine PySem.HandSPX.store_in_new ⟨_, #[], _, (Heap.get?_update_ne _ _ _ _ xs.symm).trans (Heap.get?_push_at rfl rfl), rfl, (fun e he => absurd he (by simp)), fun _ => rfl⟩ fun h' tk' hn hs => ?_
  refine q h.objs.size h' tk' (fun b o hb ho => ?_) (Nat.le_refl _) ?_ hn
  · exact (hs.2 b (Nat.ne_of_lt (Heap.lt_size ho))).trans ((Heap.get?_update_ne _ _ _ _ hb).trans (Heap.get?_push_of_some _ ho))
  · exact (hs.2 x xs).trans (Heap.get?_update_self _ hx1 rfl)
theorem exc_body {A : Around} {E : Value → Shared → Prop} {s : Shared} {R : Flow → Shared → Prop} {G : Heap} {m : Str → Option Value} {L x t : Addr} {n : Int} {tn : Tok} {rest : List Value} {oc cl ccl : Value} {od cld cdd : Option Addr} {qual file : Str} {par : Arguments} {dV kV doc pm ct : Value} {an : Option Addr}
    {cda cc : Addr} {osl csl ccs : Array (Option Value)} {vs : Array Value} {tf : Tok} {j : Nat} {p0 p1 p2 p3 p4 p5 p6 p7 p8 p9 p10 p11 p12 : Pos} {ar : Arg} (c : ExcK K P C f txt)
    (F : Fr G L s.heap m) (X : K.In G) (N : News G L s.heap [(x, excObj C t none .none), (t, excTup rest)]) (xt : x ≠ t) (gg : G.Ns mainGlobals mg) (gs : mg "super" = none) (gb : G.Ns builtinsNs mb) (bs : mb "super" = some (.type "super"))
    (hf : K.lookup f = some ⟨oc, od, .func (ksFn "__init__" qual par (excBody txt j p0 p1 p2 p3 p4 p5 p6 p7 p8 p9 p10 p11 p12) excScope dV kV doc pm an (.ref cda) ct cc), osl⟩)
    (hp : (par.posonlyargs ++ par.args).head? = some ar) (har : ar.arg = "self") (hcd : K.lookup cda = some ⟨ccl, cdd, .fields vs, ccs⟩) (hvs : vs[2]? = some (.str file tf)) (hfile : ((P.main.file : Str) == file) = true)
    (hcc : K.lookup cc = some ⟨cl, cld, .cell (some (.ref C)), csl⟩) {pl : Sem Bool} (hcall : eval (.Call (.Attribute (.Call (.Name "super" p0) [] [] p1) "__init__" p2) [.JoinedStr [.Constant (.str txt) j p3, .FormattedValue (.Name "place" p4) (-1) none p5] p6] [] p7) (ksEnv qual excScope L f (.ref cda) cc) = (do
      let ov ← attributeBase (.Call (.Name "super" p0) [] [] p1) "__init__" (ksEnv qual excScope L f (.ref cda) cc) (eval (.Call (.Name "super" p0) [] [] p1) (ksEnv qual excScope L f (.ref cda) cc))
      standAt p2.atName
      let (fm, first) ← holding [ov] (getMethod ov "__init__" pl)
      callWith p7 fm first (backTo p7 (starEach [.JoinedStr [.Constant (.str txt) j p3, .FormattedValue (.Name "place" p4) (-1) none p5] p6] (ksEnv qual excScope L f (.ref cda) cc))) [])) (hm1 : m "self" = some (.ref x)) (hm2 : m "place" = some (.int n tn)) (hn : n.natAbs.log2 < 1920) (ht : (Str.empty ++ txt ++ (toString n : Str)).length ≤ sizeLine) (ht1 : (Str.empty ++ txt).length ≤ sizeLine)
    (q : ∀ h' t' dx tk, (∀ b o, G.get? b = some o → h'.get? b = some o) → h'.get? x = some (excObj C t' (some dx) .none) → h'.Ns1 dx (fun y => if y = "place" then some (.int n tn) else none) → G.objs.size ≤ dx → dx ≠ x → R .next { s with heap := h', toks := tk }) :
    PySem.wpAt (model P w) A (.func (excBody txt j p0 p1 p2 p3 p4 p5 p6 p7 p8 p9 p10 p11 p12) (ksEnv qual excScope L f (.ref cda) cc)) (execs (excBody txt j p0 p1 p2 p3 p4 p5 p6 p7 p8 p9 p10 p11 p12) (ksEnv qual excScope L f (.ref cda) cc)) R E s := by
  have XS : K.In s.heap := X.keeps F.keep
  have I : InstAt s.heap x (excObj C t none .none) C none := ⟨(N (x, excObj C t none .none) (by simp)).1, rfl, rfl, trivial⟩
  obtain ⟨cd, hcdC, -⟩ := any_some c.hd
  refine ks_wpAt_execs_cons (ks_wpAt_Expr_any (ks_wpAt_MethodCall (pl := pl) ?_ hcall))
  obtain ⟨h, g, d, tk0, os⟩ := s
  obtain ⟨oD, hD1, hD2⟩ : ∃ oD, h.get? C = some oD ∧ oD.data = .cls cd := by
    unfold clsIn at hcdC
    split at hcdC
    · rename_i z1 z2 z3 z4 ho
      cases hcdC
      exact ⟨_, XS _ _ ho, rfl⟩
    · cases hcdC
  refine ks_wpAt_super_base (env := ksEnv qual excScope L f (.ref cda) cc) rfl rfl (by decide) rfl (XS _ _ hf) rfl hp rfl (XS _ _ hcd) rfl hvs hfile c.top ?_
  refine ks_loadName_global rfl rfl (loadGlobal_builtin (env := ksEnv qual excScope L f (.ref cda) cc) (gg.keeps F.keep) gs (gb.keeps F.keep) bs ⟨rfl, ?_⟩)
  refine wpAny_loadName_free rfl rfl rfl ⟨_, XS _ _ hcc, rfl⟩ ?_
  rw [har]
  refine wpAny_loadName_local rfl rfl F.ns hm1 ?_
  refine ks_wpAny_isType_cls hD1 hD2 ⟨rfl, ?_⟩
  refine ks_wpAny_call_super hD1 hD2 I.at_ I.cls (fun c' e => ?_) (looks_mroIn XS c.slf) (fun h1 e1 k1 => ?_)
  · cases e
  obtain ⟨F1, N1, l1⟩ := ks_newsPush (s := ⟨h, g, d, tk0, os⟩) F N rfl e1 k1
  have I1 : InstAt h1 x (excObj C t none .none) C none := ⟨(N1 (x, excObj C t none .none) (by simp)).1, rfl, rfl, trivial⟩
  refine kxs_method kxs_Exception (s := ⟨h1, g, d, tk0, os⟩) F1 X N1 (so := h.objs.size) (D := C) (by simp) I1 c.opq c.sup c.sub (by decide) fun q1 h2 F2 N2 l2 => ?_
  refine kxs_callWith1 (i := "Exception.__init__") (x := x) N2 (by simp) (spliced_more (env := ksEnv qual excScope L f (.ref cda) cc) ?_)
  refine wpAny_JoinedStr ?_
  show Joins _ _ _ [eval _ _, eval _ _] _ _ _
  refine Constant_str ⟨txt, _, rfl, ht1, ?_⟩
  refine wpAny_FormattedValue_plain (wpAny_Name (wpAny_loadName_local rfl rfl F2.ns hm2 (wpAny_formatField_int hn ⟨_, _, rfl, ht, ?_⟩)))
  refine ⟨ht, ?_⟩
  have xq : x < q1 := l2 (x, excObj C t none .none) (by simp)
  have xs : x < h.objs.size := l1 (x, excObj C t none .none) (by simp)
  refine spliced_none ⟨kxs_at N2 (by simp), ?_⟩
  refine kxs_call (x := x) F2 X N2 PySem.F.excBase_Exception c.own (by simp) (.tail (Nat.ne_of_gt xq) (.tail (Nat.ne_of_gt xs) (.head fun p hp => by
    have : p = (t, excTup rest) := by simpa using hp
    rw [this]
    exact fun z => xt z.symm))) (by simp [sizeLine_eq]) fun t3 h3 F3 N3 l3 => ?_
  have hx3 : h3.get? x = some (excObj C t3 none .none) := (N3 (x, excObj C t3 none .none) (by simp)).1
  refine ks_wpAt_execs_cons (ks_wpAt_Assign_Attr (wpAt_of_wpAny (wpAny_Name (wpAny_loadName_local rfl rfl F3.ns hm2 (wpAny_Name (wpAny_loadName_local rfl rfl F3.ns hm1 ?_))))))
  refine exc_store c (X.keeps F3.keep) hx3 fun dx h4 tk k4 hdx hx4 hn4 => ?_
  refine wpAt_of_wpAny (wpAny_execs_nil ?_)
  have gx : G.get? x = none := (N (x, excObj C t none .none) (by simp)).2.2
  have d3 : h3.get? dx = none := by
    cases z : h3.get? dx with
    | none => rfl
    | some o => exact absurd (Nat.lt_of_lt_of_le (Heap.lt_size z) hdx) (Nat.lt_irrefl _)
  refine q h4 t3 dx tk (fun b o e => k4 b o (fun z => by rw [z, gx] at e; cases e) (F3.keep b o e)) hx4 hn4 ?_ (fun z => by rw [z, hx3] at d3; cases d3)
  obtain ⟨oL, _, _, hoL, _⟩ := F3.ns
  exact Nat.le_trans F3.above (Nat.le_trans (Nat.le_of_lt (Heap.lt_size hoL)) hdx)
/-- C(n) -/
theorem exc_call {A : Around} {E : Value → Shared → Prop} {s : Shared} {n : Int} {tn : Tok} {Q : Value → Shared → Prop} (c : ExcK K P C f txt) (X : K.In s.heap) (lim : s.heap.NoLimit) (gg : s.heap.Ns mainGlobals mg) (gs : mg "super" = none) (gb : s.heap.Ns builtinsNs mb)
    (bs : mb "super" = some (.type "super")) (hr : (A.under (.builtin "type.__call__" ⟨[.ref C, .int n tn], []⟩)).depth < recursionLimit) (hn : n.natAbs.log2 < 1920) (ht : (Str.empty ++ txt ++ (toString n : Str)).length ≤ sizeLine) (ht1 : (Str.empty ++ txt).length ≤ sizeLine)
    (q : ∀ h' e t' dx tk, (∀ b o, s.heap.get? b = some o → h'.get? b = some o) → s.heap.objs.size ≤ e → h'.get? e = some (excObj C t' (some dx) .none) → h'.Ns1 dx (fun y => if y = "place" then some (.int n tn) else none) → s.heap.objs.size ≤ dx → dx ≠ e →
      Q (.ref e) { s with heap := h', toks := tk }) : wpAny (model P w) A (call (.ref C) [.int n tn]) Q E s := by
  obtain ⟨nm, N', qn, bs', bm, hdct, sn, sub, ab, col, dd, k0, k1, k2, k3, k5, hC, hT⟩ := excInit_of X c.own
  obtain ⟨oc, od, qual, par, dV, kV, doc, pm, ct, an, cda, cc, osl, j, p0, p1, p2, p3, p4, p5, p6, p7, p8, p9, p10, p11, p12, ar, hf, hcode, hbind, hp, har, ⟨ccl, cdd, vs, ccs, file, tf, hcd, hvs, hfile⟩, hcall, cl, cld, csl, hcc⟩ := c.def_
  have hi' : Looks (model P w) s.heap (typeLookup (.ref C) "__init__") (some (.ref f)) := looks_findIn X c.ini
  have hof := X _ _ hf
  have hcf : oc = .type "function" := by
    have := c.fn
    unfold isFn typeIn at this
    simp only [hf] at this
    simpa using this
  obtain ⟨h, g, d, tk0, os⟩ := s
  refine wpAny_call (PX.call_own PySem.F.excBase_Exception hT hC hi' (fun self => exc_bind hof hcf self) (by simp [sizeLine_eq]) ?_)
  have kk : ∀ b o, h.get? b = some o → ((h.push (excTup [.int n tn])).push (excObj C h.objs.size none .none)).get? b = some o := fun b o e => Heap.get?_push_of_some _ (Heap.get?_push_of_some _ e)
  refine ks_codeAny_call_defAt hr (kk _ _ hof) rfl (lim.keeps kk) (codeRec_of (X.keeps kk) hcode) rfl (.of_eq (hbind _ _)) (show ∀ y ∈ excScope.names, y.2 ≠ .cell by decide) (fun y hy => by
    simp only [List.mem_cons, List.not_mem_nil, or_false] at hy
    rcases hy with rfl | rfl <;> rfl) fun h1 hns hk1 => ?_
  have sz : ((h.push (excTup [.int n tn])).push (excObj C h.objs.size none .none)).objs.size = h.objs.size + 2 := by rw [Heap.size_push, Heap.size_push]
  have none_of : ∀ {a : Addr}, h.objs.size ≤ a → h.get? a = none := fun {a} ha => by
    cases z : h.get? a with
    | none => rfl
    | some o => exact absurd (Nat.lt_of_lt_of_le (Heap.lt_size z) ha) (Nat.lt_irrefl _)
  have e1 : ((h.push (excTup [.int n tn])).push (excObj C h.objs.size none .none)).get? h.objs.size = some (excTup [.int n tn]) := by heap_get
  have e2 : ((h.push (excTup [.int n tn])).push (excObj C h.objs.size none .none)).get? (h.objs.size + 1) = some (excObj C h.objs.size none .none) := by heap_get
  refine exc_body (G := h) (x := h.objs.size + 1) (t := h.objs.size) (rest := [.int n tn]) c ⟨hns, fun b o e => hk1 b o (kk b o e), by rw [sz]; omega⟩ X (fun p hp => ?_) (Nat.succ_ne_self _) gg gs gb bs hf hp har hcd hvs hfile hcc (hcall _).choose_spec rfl rfl hn ht ht1 fun h' t' dx tk k he hd hdx hde => ?_
  · simp only [List.mem_cons, List.not_mem_nil, or_false] at hp
    rcases hp with rfl | rfl
    · exact ⟨hk1 _ _ e2, by rw [sz]; exact Nat.ne_of_lt (Nat.lt_succ_self _), none_of (Nat.le_succ _)⟩
    · exact ⟨hk1 _ _ e1, by rw [sz]; exact Nat.ne_of_lt (Nat.lt_of_lt_of_le (Nat.lt_succ_self _) (Nat.le_succ _)), none_of (Nat.le_refl _)⟩
  · exact ⟨rfl, q h' _ t' dx tk k (Nat.le_succ _) he hd hdx hde⟩
end
end Y
namespace Y
open PySem L2
section
variable {X : Cx} {C f : Addr} {txt : Str} {es : List Expr} {ta : TA} {e : Expr} {p pos : Pos} {k : Nat}
/-- C(e): an exception whose dict says place -/
def tExc (C : Addr) (ta : TA) : St → Hp → XK → Prop := fun σ H Q => ta σ H fun vs H1 => ∃ n : Int, vs = [.int n] ∧ n.natAbs < 1000000 ∧ ∀ d, H1 d = none → Q (.ref C) (some d) (upd H1 d (.xd [("place", .int n)]))
theorem text_fits {n : Int} {txt : Str} (hn : n.natAbs < 1000000) (ht : txt.length ≤ 100) : n.natAbs.log2 < 1920 ∧ (Str.empty ++ txt ++ (toString n : Str)).length ≤ sizeLine ∧ (Str.empty ++ txt).length ≤ sizeLine := by
  have e := int_text_length_le10 (k := 6) (a := n) (by decide) hn
  have e0 : Str.empty.length = 0 := rfl
  refine ⟨?_, ?_, ?_⟩
  · by_cases z : n.natAbs = 0
    · rw [z]; decide
    · exact (Nat.log2_lt z).mpr (Nat.lt_of_lt_of_le hn (by decide +kernel))
  · rw [PySem.Str.length_append, PySem.Str.length_append, ofString_length, sizeLine_eq]; omega
  · rw [PySem.Str.length_append, sizeLine_eq]; omega
theorem pmk_exc {x : Str} (c : ExcK X.K X.prog C f txt) (ht : txt.length ≤ 100) (hr : Room (k + 1) X.A) (hg : Gl X x) (hm : X.mg x = some (.ref C)) (gs : X.mg "super" = none) (ha : PA X (e :: es) ta)
    (hdb : (x == ("__debug__" : Str)) = false := by decide) (he : starEach (e :: es) X.env = (false, eval e X.env) :: starEach es X.env := by rfl) (hpl : (backTo pos (starEach es X.env)).any (·.1) = false := by rfl) :
    PMk X (.Call (.Name x p) (e :: es) [] pos) (tExc C ta) := by
  intro pins s σ H Q I h
  refine wpAny_Call_Name_kw (ld_glob I hg hm ?_ hdb)
  refine PySem.W.callWith_K (h₀ := X.base) I.ok.mod.kin c.kC (thn (ha.run pos pins s σ H _ I h) fun us s1 hh => ?_) he hpl
  obtain ⟨vs, H1, I1, r, n, rfl, hn, q⟩ := hh
  refine ⟨I1.kIn, ?_⟩
  obtain ⟨u, rfl, ru⟩ := r.one
  obtain ⟨tn, rfl⟩ := (show ∃ t, u = Value.int n t from ru)
  obtain ⟨t1, t2, t3⟩ := text_fits hn ht
  have kb : ∀ b o, X.base.get? b = some o → s1.heap.get? b = some o := fun b o z => (I1.env0.bs b o z).1
  obtain ⟨mb, hb1, hb2⟩ := I1.ok.mod.blt
  refine exc_call c I1.kIn (I1.ok.mod.nolimit.keeps kb) (I1.ok.mod.glob.keeps kb) gs (hb1.keeps kb) ((hb2 _ (by decide +kernel)).trans (by first | boot_by_name | rfl | kernel_rfl)) (hr.make C _ []).depth t1 t2 t3 fun h' a t' dx tk kp ha' he' hd' hdx hda => ?_
  obtain ⟨G, g1, g2⟩ := restrict h' fun b => decide (b ≠ a)
  have gk : ∀ b, b ≠ a → G.get? b = h'.get? b := fun b hb => g1 b (decide_eq_true hb)
  have ge : G.get? a = none := g2 a (by simp)
  have kG : ∀ b o, s1.heap.get? b = some o → G.get? b = some o := fun b o z => by
    rw [gk b (Nat.ne_of_lt (Nat.lt_of_lt_of_le (Heap.lt_size z) ha'))]
    exact kp b o z
  have nd : H1 dx = none := I1.hok.fresh hdx
  have na : H1 a = none := I1.hok.fresh ha'
  have J : Inv X pins σ (upd H1 dx (.xd [("place", .int n)])) { s1 with heap := G, toks := tk } := by
    refine I1.laid kG hdx ⟨_, hd'.at fun o z => (gk dx hda).trans z, fun y => ?_⟩
    by_cases hy : y = "place"
    · subst hy
      simp only [if_pos rfl]
      rw [lookup_put, if_pos rfl]
      exact ⟨_, rfl⟩
    · rw [lookup_put, if_neg hy, if_neg hy]
      exact True.intro
  refine ⟨a, _, _, { s1 with heap := G, toks := tk }, _, .ref C, some dx, rfl, J, fun b o z => ?_, ge, he', ⟨rfl, rfl⟩, rfl, rfl, by rw [upd_ne hda.symm]; exact na, rfl, I1.bare, raises_own c.exC c.tyC, q dx nd⟩
  by_cases hb : b = a
  · subst hb
    have z' : G.get? b = some o := z
    rw [ge] at z'
    cases z'
  · exact (gk b hb).symm.trans z
end
end Y
set_option Elab.async false
set_option linter.all false
set_option autoImplicit false
set_option maxRecDepth 100000
set_option maxHeartbeats 1000000
/-! Objects, their methods and operators; defs that may raise. -/
namespace Y
open PySem L2
/-! ### isinstance -/
def D.tyN : D → Option String
  | .non => some "NoneType"
  | .bl _ => some "bool"
  | .int _ => some "int"
  | .str _ => some "str"
  | .tup _ => some "tuple"
  | .lst _ => some "list"
  | _ => none
section
variable {K : PySem.W.Frag} {H : Hp}
theorem tyx_l {a : Addr} {xs : List V} (h : SqL K H a xs) : TyX K H (.ref a) (.type "list") := by
  rcases h with (h | ⟨o, h⟩) | h
  · exact .base (.lst h)
  · exact .base (.frz h)
  · obtain ⟨o, _, _, h1, h2, _⟩ := h
    exact .kList h1 h2
theorem tyx_t {a : Addr} {xs : List V} (h : SqT K H a xs) : TyX K H (.ref a) (.type "tuple") := by
  rcases h with (h | ⟨o, h⟩) | h
  · exact .base (.tup h)
  · exact .fTuple h
  · obtain ⟨o, _, _, h1, h2, _⟩ := h
    exact .kTuple h1 h2
theorem Is.tyx {v : V} {d : D} {t : String} (h : Is K H v d) (e : d.tyN = some t) : TyX K H v (.type t) := by
  cases h with
  | non => cases e; exact .base .non
  | bl b => cases e; exact .base (.bl b)
  | int i => cases e; exact .base (.int i)
  | str x => cases e; exact .base (.str x)
  | ty n => cases e
  | adr n => cases e
  | tup h _ => cases e; exact tyx_t h
  | lst h _ => cases e; exact tyx_l h
  | ins _ _ _ => cases e
end
/-- what the written part says of a class of things -/
structure ObjC (K : PySem.W.Frag) (C : Addr) : Prop where
  cl : Cls K C
  ca : PySem.W.findIn K (.ref C) "__class__" = some (some (.builtin "object.__class__"))
  cn : PySem.W.specialIn K (.builtin "object.__class__") "__get__" = some (some (.builtin "getset_descriptor.__get__"))
  ct : PySem.W.takesIn K (.builtin "object.__class__") = some true
  cm : PySem.W.mroIn K C (.type "object") = some true
def lookD : List Str → List D → Str → Option D
  | n :: ns, d :: l, f => if f = n then some d else lookD ns l f
  | _, _, _ => none
section
variable {K : PySem.W.Frag} {B : List Addr} {H0 : Hp} {Z : Hp → Prop} {E : List Slot} {ta tb tc te : TE} {t : TT} {ea : TA} {x y z d : D} {l m : List D} {b c : Bool} {De : Ends} {tx : TS}
theorem ep_isi {ty t2 : String} {r : Bool} (h : EP K B H0 Z te E d) (e : d.tyN = some ty) (k : kitB ty t2 = some r) : EP K B H0 Z (tCB (rIsi K) (tCons te (tCons (tC (.ty t2)) tNil))) E (.bl r) := fun σ H en Q q =>
  h σ H en _ fun v H1 e1 h1 => ⟨v, .ty t2, .type ty, .type t2, r, rfl, .ty t2, h1.tyx e, kit_ty k, q _ H1 e1 (.bl r)⟩
theorem ep_isiO {C : Addr} {ns : List Str} (h : EP K B H0 Z te E (.ins C ns l)) (c : ObjC K C) : EP K B H0 Z (tCB (rIsi K) (tCons te (tCons (tC (.ref C)) tNil))) E (.bl true) := fun σ H en Q q =>
  h σ H en _ fun v H1 e1 h1 => by
    obtain ⟨a, dx, fs, rfl, ha, _, _⟩ := h1.ins_inv
    refine ⟨.ref a, .ref C, .ref C, .ref C, true, rfl, .own C, .base (.ins ha c.cl c.ca c.cn c.ct c.cm), ?_, q _ H1 e1 (.bl true)⟩
    unfold PySem.W.kitOne
    rw [if_pos (beq_self_eq_true _)]
theorem ep_isiT {ty t2 t3 : String} {r2 r3 : Bool} (h : EP K B H0 Z te E d) (e : d.tyN = some ty) (k : kitB ty t2 = some r2) (k3 : kitB ty t3 = some r3) :
    EP K B H0 Z (tCB (rIsiT K) (tCons te (tCons (tTup (tCons (tC (.ty t2)) (tCons (tC (.ty t3)) tNil))) tNil))) E (.bl (r2 || r3)) := fun σ H en Q q =>
  h σ H en _ fun v H1 e1 h1 => ⟨by simp [sizeLine_eq], fun p np => ⟨v, p, [.ty t2, .ty t3], .type ty, [.type t2, .type t3], r2 || r3, rfl, upd_same, .cons (.ty _) (.cons (.ty _) .nil), (h1.mono (Ex.new np)).tyx e,
    kitAny_cons (kit_ty k) (fun hb => by
      subst hb
      exact kitAny_cons (kit_ty k3) (fun hb => by subst hb; rfl) (fun hb => by subst hb; rfl)) (fun hb => by subst hb; rfl), q _ _ (e1.trans (Ex.new np)) (.bl _)⟩⟩
/-! ### attributes -/
theorem look_fs {H : Hp} {f : Str} : ∀ {fs : List (Str × V)} {ns : List Str} {l : List D}, fs.map (·.1) = ns → IsAll K H (fs.map (·.2)) l → lookD ns l f = some d → ∃ v, fs.lookup f = some v ∧ Is K H v d
  | [], ns, l, e, h, k => by
    subst e
    simp [lookD] at k
  | (n, v) :: fs, ns, l, e, h, k => by
    subst e
    cases h with
    | cons h t =>
      rw [L2.lookup_put]
      simp only [List.map_cons, lookD] at k
      by_cases hf : f = n
      · rw [if_pos hf] at k ⊢
        cases k
        exact ⟨v, rfl, h⟩
      · rw [if_neg hf] at k ⊢
        exact look_fs rfl t k
theorem ep_fld {C : Addr} {ns : List Str} {f : Str} (h : EP K B H0 Z te E (.ins C ns l)) (c : Cls K C) (n : NoAttr K C f) (k : lookD ns l f = some d) : EP K B H0 Z (tFld K te f) E d := fun σ H en Q q =>
  h σ H en _ fun v H1 e1 h1 => by
    obtain ⟨a, dx, fs, rfl, ha, hn, hl⟩ := h1.ins_inv
    obtain ⟨v, h2, h3⟩ := look_fs hn hl k
    exact ⟨a, C, dx, fs, v, rfl, ha, c, n, h2, q v H1 e1 h3⟩
/-! ### defs that may raise -/
/-- the promise: from ds the datum d, or C(place) is raised -/
def PureX (K : PySem.W.Frag) (pre : List D → D → Prop) (preX : List D → Addr → Int → Prop) : Sp := fun vs H Q E => ∃ ds, IsAll K H vs ds ∧ ((∃ d, pre ds d ∧ ∀ v H', Ex H H' → Is K H' v d → Q v H') ∨
  ∃ C n, preX ds C n ∧ ∀ d H', Ex H H' → H' d = some (.xd [("place", .int n)]) → E (.ref C) (some d) H')
/-- an expression that raises as wanted -/
def ER (K : PySem.W.Frag) (B : List Addr) (H0 : Hp) (Z : Hp → Prop) (te : TE) (E : List Slot) : Prop := ∀ σ H, Env K B H0 Z E σ H → ∀ Q : VK, te σ H Q
def ERA (K : PySem.W.Frag) (B : List Addr) (H0 : Hp) (Z : Hp → Prop) (ta : TA) (E : List Slot) : Prop := ∀ σ H, Env K B H0 Z E σ H → ∀ Q : List V → Hp → Prop, ta σ H Q
def ERT (K : PySem.W.Frag) (B : List Addr) (H0 : Hp) (Z : Hp → Prop) (t : TT) (E : List Slot) : Prop := ∀ σ H, Env K B H0 Z E σ H → ∀ Q : Bool → Hp → Prop, t σ H Q
theorem ep_callX {pre : List D → D → Prop} {preX : List D → Addr → Int → Prop} {ex : XK} (h : EA K B H0 Z ea E l) (hp : pre l d) : EP K B H0 Z (tCall (PureX K pre preX) [] ex ea) E d := fun σ H e Q q =>
  h σ H e _ fun vs H1 e1 h1 => ⟨l, by rw [List.append_nil]; exact h1, .inl ⟨d, hp, fun v H2 e2 h2 => q v H2 (e1.trans e2) h2⟩⟩
theorem ep_callS {pre : List D → D → Prop} {preX : List D → Addr → Int → Prop} {ex : L2.St → XK} (h : EA K B H0 Z ea E l) (hp : pre l d) : EP K B H0 Z (tCallS (PureX K pre preX) ex ea) E d := fun σ H e Q q =>
  h σ H e _ fun vs H1 e1 h1 => ⟨l, h1, .inl ⟨d, hp, fun v H2 e2 h2 => q v H2 (e1.trans e2) h2⟩⟩
/-- what is wanted of C(n) here -/
def WX_ (K : PySem.W.Frag) (B : List Addr) (H0 : Hp) (Z : Hp → Prop) (E : List Slot) (W : L2.WX) (C : Addr) (n : Int) : Prop := ∀ σ H, Env K B H0 Z E σ H → ∀ d, H d = some (.xd [("place", .int n)]) → W (.ref C) (some d) σ H
theorem er_callS {pre : List D → D → Prop} {preX : List D → Addr → Int → Prop} {W : L2.WX} {C : Addr} {n : Int} (h : EA K B H0 Z ea E l) (hp : preX l C n) (hw : WX_ K B H0 Z E W C n) : ER K B H0 Z (tCallS (PureX K pre preX) (WE W) ea) E := fun σ H e Q =>
  h σ H e _ fun vs H1 e1 h1 => ⟨l, h1, .inr ⟨C, n, hp, fun dd H2 e2 h2 => hw σ H2 (e.ext (e1.trans e2)) dd h2⟩⟩
theorem era_cons {ta : TE} {tr : TA} (h : ER K B H0 Z ta E) : ERA K B H0 Z (tCons ta tr) E := fun σ H e Q => h σ H e _
theorem er_call {sp : Sp} {ex : XK} (h : ERA K B H0 Z ea E) : ER K B H0 Z (tCall sp [] ex ea) E := fun σ H e Q => h σ H e _
theorem er_callSa {sp : Sp} {ex : L2.St → XK} (h : ERA K B H0 Z ea E) : ER K B H0 Z (tCallS sp ex ea) E := fun σ H e Q => h σ H e _
theorem er_if (h : ERT K B H0 Z t E) : ER K B H0 Z (tIf t ta tb) E := fun σ H e Q => h σ H e _
theorem ert_test (h : ER K B H0 Z te E) : ERT K B H0 Z (tTest te) E := fun σ H e Q => h σ H e _
theorem sd_asgR {g : TG} (h : ER K B H0 Z te E) : SD K B H0 Z (tAsg te g) De E := fun σ H e => h σ H e _
theorem sd_retR (h : ER K B H0 Z te E) : SD K B H0 Z (tRet te) De E := fun σ H e => h σ H e _
theorem sd_dropR (h : ER K B H0 Z te E) : SD K B H0 Z (tDrop te) De E := fun σ H e => h σ H e _
theorem sd_raise {W : L2.WX} {C : Addr} {n : Int} (h : EA K B H0 Z ea E [.int n]) (hn : n.natAbs < 1000000) (hw : WX_ K B H0 Z E W C n) : SD K B H0 Z (fun _ σ H => tExc C ea σ H fun cls d H' => W cls d σ H') De E := fun σ H e =>
  h σ H e _ fun vs H1 e1 h1 => by
    cases h1 with
    | cons a t =>
      cases a; cases t
      exact ⟨n, rfl, hn, fun d nd => hw σ _ (e.ext (e1.trans (Ex.new nd))) d upd_same⟩
end
/-! ### a def that may raise -/
structure OkX (K : PySem.W.Frag) (H : Hp) (Q : VK) (D : Ends) (d : Y.D) : Prop where
  rt : RT K [] H D d
  nx : d = .non → ∀ σ H', Ex H H' → D.nx σ H'
section
variable {P : Program} {w : World} {K : PySem.W.Frag} {mg : Str → Option Value} {base : Heap}
/-- as pure_ok; the exceptions that leave: what E wants of C(n) -/
theorem purex_ok {x qual : Str} {st : Stmt} {f : Addr} {fd : FuncData} {N ps : List Str} {k : Nat} {pre : List D → D → Prop} {preX : List D → Addr → Int → Prop} (F : Fun K x qual st f fd) (S : FnScope N ps (defScope st)) (len : ∀ ds, ((∃ d, pre ds d) ∨ ∃ C n, preX ds C n) → ds.length = ps.length) (hN : ps.length ≤ N.length)
    (hb : ∀ (cdv : Value) (A : Around) (outer : List PySem.Env) (s : Shared) (H : Hp) (E : XK), Room k (A.deeper (PyProof.Rows.envOfC qual (defScope st) s.heap.objs.size f cdv)) →
      ∃ t, PSs (cxOf (L2.CX P w) P w K mg base N qual (defScope st) f cdv A outer s H E) (defBody st) t ∧ (∀ ds d, pre ds d → ∀ D : Ends, Ok K H D d → SD K [] H (fun _ => True) t D (entry N ds)) ∧
        ∀ ds C n, preX ds C n → ∀ D : Ends, (∀ d H', Ex H H' → H' d = some (.xd [("place", .int n)]) → E (.ref C) (some d) H') → SD K [] H (fun _ => True) t D (entry N ds)) :
    FnOk P w K mg base (L2.CX P w) (k + 1) f fd ps (PureX K pre preX) := by
  refine F.okX S (fun vs H Q E h => ?_) (fun cdv A outer s H vs Q E hr h => ?_)
  · obtain ⟨ds, h1, h2⟩ := h
    rw [h1.length]
    rcases h2 with ⟨d, h2, _⟩ | ⟨C, n, h2, _⟩
    · exact len ds (.inl ⟨d, h2⟩)
    · exact len ds (.inr ⟨C, n, h2⟩)
  · obtain ⟨t, ht, hs, hx⟩ := hb cdv A outer s H E hr
    refine ⟨t, ht, ?_⟩
    obtain ⟨ds, h1, h2⟩ := h
    rcases h2 with ⟨d, h2, h3⟩ | ⟨C, n, h2, h3⟩
    · refine hs ds d h2 _ ⟨fun v H' e i => h3 v H' (fun a o q => e a o (by simp) q) i, fun hd σ H' e => h3 .non H' e (hd ▸ .non)⟩ _ _ (env_entry h1 ?_)
      have := len ds (.inl ⟨d, h2⟩)
      omega
    · refine hx ds C n h2 _ (fun d H' e q => h3 d H' e q) _ _ (env_entry h1 ?_)
      have := len ds (.inr ⟨C, n, h2⟩)
      omega
theorem wx_of {K : PySem.W.Frag} {H : Hp} {Z : Hp → Prop} {E : List Slot} {W : XK} {C : Addr} {n : Int} (h : ∀ d H', Ex H H' → H' d = some (.xd [("place", .int n)]) → W (.ref C) (some d) H') : WX_ K [] H Z E (fun cls d _ H' => W cls d H') C n := fun σ H' e d q =>
  h d H' (fun a o z => e.ex a o (by simp) z) q
end
end Y
set_option Elab.async false
set_option linter.all false
set_option autoImplicit false
set_option maxRecDepth 100000
set_option maxHeartbeats 1000000
/-! Methods, own operators, a class called, fields stored. -/
namespace Y
open PySem L2 PySem.Spec
/-- o.m(..) of an instance of the class at C; what leaves it by the slots -/
def tMeS (C : Addr) (m : Str) (sp : Sp) (E : L2.St → XK) (ta : TE) (t : TA) : TE := fun σ H Q => ta σ H fun x H1 => ∃ a dx fs, x = .ref a ∧ H1 a = some (.ins C dx fs) ∧ fs.lookup m = none ∧ t σ H1 fun vs H2 => sp (x :: vs) H2 Q (E σ)
section
variable {X : Cx} {CX : CXT} {k : Nat} {f C g : Addr} {fd : FuncData} {ps : List Str} {sp : Sp} {E : L2.St → XK} {x m : Str} {p pos apos : Pos} {e o : Expr} {es : List Expr} {ta : TE} {t : TA}
theorem pe_meS {pl : Sem Bool} (he : PE X o ta) (c : Cls X.K C) (hm : Meth X.K C m f) (F : FnOk X.prog X.w X.K X.mg X.base CX k f fd ps sp) (hr : Room k X.A) (hb : Binds X.K fd ps []) (hx : ∀ σ, PassesAt CX X σ (E σ)) (ha : PA X (e :: es) t)
    (hst : starEach (e :: es) X.env = (false, eval e X.env) :: starEach es X.env := by rfl) (hpl : (backTo pos (starEach es X.env)).any (·.1) = false := by rfl)
    (ht : eval (.Call (.Attribute o m apos) (e :: es) [] pos) X.env = (do
      let ov ← eval o X.env
      standAt apos.atName
      let (fm, first) ← holding [ov] (getMethod ov m pl)
      callWith pos fm first (backTo pos (starEach (e :: es) X.env)) (backToKw pos (keywordEach [] X.env))) := by rfl) :
    PE X (.Call (.Attribute o m apos) (e :: es) [] pos) (tMeS C m sp E ta t) := by
  refine ⟨fun pins s σ H Q I h => ?_⟩
  refine PySem.W.methodCall_KW (pl := pl) (thn (he.run pins s σ H _ I h) fun u s1 hh => ?_) ht
  obtain ⟨y, H1, I1, ry, a, dx, fs, rfl, ea, l, q⟩ := hh
  obtain rfl : u = Value.ref a := ry
  refine getmeth_ok I1 ea c hm l ?_
  refine PySem.W.callWith_K (first := [.ref a]) (h₀ := X.base) I.ok.mod.kin hm.kp (thn (ha.run pos pins s1 σ H1 _ I1 q) fun us s2 hh => ?_) hst hpl
  obtain ⟨vs, H2, I2, r, q2⟩ := hh
  exact ⟨I2.kIn, run_fnS (us := .ref a :: us) (vs := .ref a :: vs) F hr hb (hx σ) I2 (.cons rfl r) q2⟩
/-! ### own ~ -/
def rInv (C : Addr) (sp : Sp) : V → Hp → VK → Prop := fun x H Q => ∃ a dx fs, x = .ref a ∧ H a = some (.ins C dx fs) ∧ sp [x] H Q E0
theorem un_invO (hs : PySem.W.findIn X.K (.ref C) "__invert__" = some (some (.ref g))) (hf : PySem.W.isFn X.K (.ref g) = true) (F : FnOk X.prog X.w X.K X.mg X.base CX0 k g fd ps sp) (hr : Room k X.A) (hb : Binds X.K fd ps []) : UnR X (unaryOp .Invert) (rInv C sp) := by
  intro pins s σ H y v Q I ry h
  obtain ⟨a, dx, fs, rfl, ha, q⟩ := h
  obtain rfl : v = Value.ref a := ry
  obtain ⟨mA, O, _⟩ := ins_get I.hok ha
  obtain ⟨od, J, _⟩ := O.look
  obtain ⟨m, hF⟩ := I.fr
  exact PySem.W.ksp_inv hF I.ok.mod.kin J hs hf (run_fn (us := [.ref a]) (vs := [.ref a]) F hr hb .nil pass0 I (.cons rfl .nil) q)
/-! ### own == -/
def rEqO (K : PySem.W.Frag) (C : Addr) (sp : Sp) : R2 := fun x y H Q => ∃ a dx fs b dy gs, x = .ref a ∧ y = .ref b ∧ H a = some (.ins C dx fs) ∧ H b = some (.ins C dy gs) ∧ sp [x, y] H Q E0
theorem op_eqO (hn : PySem.W.notFirst X.K C (.ref C) = true) (hs : PySem.W.findIn X.K (.ref C) "__eq__" = some (some (.ref g))) (hf : PySem.W.isFn X.K (.ref g) = true) (F : FnOk X.prog X.w X.K X.mg X.base CX0 k g fd ps sp) (hr : Room k X.A) (hb : Binds X.K fd ps []) :
    OpR X (compareOp .Eq) (rEqO X.K C sp) := by
  intro pins s σ H x y v u Q I rx ry h
  obtain ⟨a, dx, fs, b, dy, gs, rfl, rfl, ha, hb', q⟩ := h
  obtain rfl : v = Value.ref a := rx
  obtain rfl : u = Value.ref b := ry
  obtain ⟨mA, O, _⟩ := ins_get I.hok ha
  obtain ⟨od, J, _⟩ := O.look
  obtain ⟨mB, O', _⟩ := ins_get I.hok hb'
  obtain ⟨od', J', _⟩ := O'.look
  obtain ⟨m, hF⟩ := I.fr
  show wpAny _ _ (richCompare .Eq _ _) _ _ _
  refine PySem.W.cmp_K (op := .Eq) (tb := .ref C) hr.units0 hF I.ok.mod.kin J J'.type hn hs hf ?_
  refine wpAny_mono (run_fn (us := [.ref a, .ref b]) (vs := [.ref a, .ref b]) F hr hb .nil pass0 I (.cons rfl (.cons rfl .nil)) q) (fun w s' z => ?_) fun _ _ z => z
  obtain ⟨z', H', I', rz, qz⟩ := z
  exact SlX.cmpback rz ⟨z', H', I', rz, qz⟩
end
/-! ### an __init__ that stores -/
def InitP (K : PySem.W.Frag) (C : Addr) (pre : List D → List Str → List D → Prop) : Sp := fun vs H Q _ => ∃ x dx us ds ns l, vs = .ref x :: us ∧ H x = some (.ins C dx []) ∧ IsAll K H us ds ∧ pre ds ns l ∧
  ∀ H' fs, (∀ a o, a ≠ x → H a = some o → H' a = some o) → H' x = some (.ins C dx fs) → fs.map (·.1) = ns → IsAll K H' (fs.map (·.2)) l → Q .non H'
mutual
def D.nob : D → Bool
  | .ins _ _ _ => false
  | .tup l => nobAll l
  | .lst l => nobAll l
  | _ => true
def nobAll : List D → Bool
  | [] => true
  | d :: l => d.nob && nobAll l
end
section
variable {K : PySem.W.Frag} {B : List Addr} {H0 H : Hp} {Z : Hp → Prop} {E : List Slot} {ta tb tc te : TE} {t : TT} {ea : TA} {x y z d : D} {l m : List D} {b c : Bool} {De : Ends} {tx : TS} {C : Addr} {ns : List Str} {k : Nat}
theorem nobAll_iff : ∀ {l : List D}, nobAll l = true ↔ ∀ d ∈ l, d.nob = true
  | [] => by simp [nobAll]
  | d :: l => by simp [nobAll, nobAll_iff (l := l)]
theorem rd_put {a x : Addr} {u o : HO} {Cx dx : Addr} {fs : List (Str × V)} (hx : H x = some (.ins Cx dx fs)) (hu : ∀ C d g, u ≠ .ins C d g) (h : Rd H a u) : Rd (upd H x o) a u := by
  rcases h with h | ⟨oo, h⟩
  · exact .inl (by rw [upd_ne (fun z => by subst z; rw [hx] at h; exact hu _ _ _ (Option.some.inj h).symm)]; exact h)
  · exact .inr ⟨oo, by rw [upd_ne (fun z => by subst z; rw [hx] at h; cases h)]; exact h⟩
mutual
theorem Is.put {a Cx dx : Addr} {fs : List (Str × V)} {o : HO} (hx : H a = some (.ins Cx dx fs)) : ∀ {v : V} {d : D}, Is K H v d → d.nob = true → Is K (upd H a o) v d
  | _, _, .non, _ => .non
  | _, _, .bl b, _ => .bl b
  | _, _, .int i, _ => .int i
  | _, _, .str x, _ => .str x
  | _, _, .ty n, _ => .ty n
  | _, _, .adr n, _ => .adr n
  | _, _, .tup h t, p => .tup (h.elim (fun h => .inl (rd_put hx (fun _ _ _ z => by cases z) h)) .inr) (IsAll.put hx t (by simpa [D.nob] using p))
  | _, _, .lst h t, p => .lst (h.elim (fun h => .inl (rd_put hx (fun _ _ _ z => by cases z) h)) .inr) (IsAll.put hx t (by simpa [D.nob] using p))
  | _, _, .ins h n t, p => by simp [D.nob] at p
theorem IsAll.put {a Cx dx : Addr} {fs : List (Str × V)} {o : HO} (hx : H a = some (.ins Cx dx fs)) : ∀ {vs : List V} {l : List D}, IsAll K H vs l → nobAll l = true → IsAll K (upd H a o) vs l
  | _, _, .nil, _ => .nil
  | _, _, .cons h t, p => .cons (Is.put hx h (by simp [nobAll] at p; exact p.1)) (IsAll.put hx t (by simp [nobAll] at p; exact p.2))
end
theorem put_keys {f : Str} {v : V} : ∀ {fs : List (Str × V)}, f ∉ fs.map (·.1) → putF f v fs = fs ++ [(f, v)]
  | [], _ => rfl
  | (g, u) :: r, h => by
    have h1 : g ≠ f := fun z => h (by simp [z])
    show (if g = f then _ else _) = _
    rw [if_neg h1, put_keys (fs := r) (fun z => h (by simp at z ⊢; exact .inr z))]
    rfl
/-- the instance at a under its __init__: what it has so far -/
def ZI (K : PySem.W.Frag) (a C dx : Addr) (ns : List Str) (l : List D) : Hp → Prop := fun H => ∃ fs, H a = some (.ins C dx fs) ∧ fs.map (·.1) = ns ∧ IsAll K H (fs.map (·.2)) l
theorem ZI.mono {a C dx : Addr} {H H' : Hp} (e : Ex H H') (h : ZI K a C dx ns l H) : ZI K a C dx ns l H' := by
  obtain ⟨fs, h1, h2, h3⟩ := h
  exact ⟨fs, e _ _ h1, h2, h3.mono e⟩
theorem hid_upd {P : List Addr} {a : Addr} {o : HO} (h : a ∉ P) : hid P (upd H a o) = upd (hid P H) a o := by
  funext b
  by_cases hb : b = a
  · subst hb
    rw [hid_at h, upd_same, upd_same]
  · rw [upd_ne hb]
    unfold hid
    rw [upd_ne hb]
def nobS : Slot → Bool
  | .no => true
  | .val d => d.nob
  | .own _ l => nobAll l
theorem Env.put {a dx : Addr} {f : Str} {v : V} {σ : L2.St} {fs : List (Str × V)} (e : Env K [a] H0 (ZI K a C dx ns l) E σ H) (hE : ∀ s ∈ E, nobS s = true) (hv : Is K H v d) (im : d.im = true) (hd : d.nob = true) (hl : nobAll l = true) (hf : f ∉ ns) (ha : H a = some (.ins C dx fs)) :
    Env K [a] H0 (ZI K a C dx (ns ++ [f]) (l ++ [d])) E σ (upd H a (.ins C dx (putF f v fs))) := by
  have no : a ∉ ows E := fun m => by
    obtain ⟨xs, q⟩ := e.lsts a m
    rw [ha] at q
    cases q
  have hh : hid (ows E) H a = some (.ins C dx fs) := by rw [hid_at no]; exact ha
  refine ⟨fun b o hb q => ?_, e.inj, e.fr, e.len, fun i d' q => ?_, fun i p l' q => ?_, ?_, fun x q => q.mono x⟩
  · rw [upd_ne (fun z => hb (by simp [z]))]
    exact e.ex b o hb q
  · obtain ⟨u, h1, h2⟩ := e.val i d' q
    refine ⟨u, h1, ?_⟩
    rw [hid_upd no]
    exact h2.put hh (hE _ (List.mem_of_getElem? q))
  · obtain ⟨h1, vs, h2, h3⟩ := e.own i p l' q
    refine ⟨h1, vs, ?_, ?_⟩
    · rw [upd_ne (fun z => by subst z; rw [ha] at h2; cases h2)]
      exact h2
    · rw [hid_upd no]
      exact h3.put hh (hE _ (List.mem_of_getElem? q))
  · obtain ⟨fs', h1, h2, h3⟩ := e.pin
    rw [hh] at h1
    cases h1
    rw [hid_upd no]
    refine ⟨_, upd_same, ?_, ?_⟩
    · rw [put_keys (by rw [h2]; exact hf), List.map_append, h2]
      rfl
    · rw [put_keys (by rw [h2]; exact hf), List.map_append]
      exact (h3.put hh hl).append (.one ((hv.clean e.lsts im).put hh hd))
theorem sd_fld {a dx : Addr} {f : Str} (hs : EP K [a] H0 (ZI K a C dx ns l) ta E (.adr a)) (h : EP K [a] H0 (ZI K a C dx ns l) te E d) (c : Cls K C) (n : NoAttr K C f) (hE : ∀ s ∈ E, nobS s = true) (im : d.im = true) (hd : d.nob = true) (hl : nobAll l = true) (hf : f ∉ ns) (hz : ns.length < 1000)
    (k : SD K [a] H0 (ZI K a C dx (ns ++ [f]) (l ++ [d])) tNext De E) : SD K [a] H0 (ZI K a C dx ns l) (sFld K ta te f) De E := fun σ H e =>
  h σ H e _ fun y H1 e1 h1 => hs σ H1 (e.ext e1) _ fun v H2 e2 h2 => by
    cases h2
    have e' := e.ext (e1.trans e2)
    obtain ⟨fs, q1, q2, q3⟩ := e'.pin
    have q1' := (hid_some q1).2
    refine ⟨a, C, dx, fs, rfl, q1', c, n, ?_, k σ _ (e'.put hE (h1.mono e2) im hd hl hf q1')⟩
    have := congrArg List.length q2
    rw [List.length_map] at this
    omega
theorem env_entryI {N : List Str} {us : List V} {ds : List D} {a dx : Addr} (hx : H a = some (.ins C dx [])) (h : IsAll K H us ds) (hN : ds.length + 1 ≤ N.length) :
    Env K [a] H (ZI K a C dx [] []) (entry N (.adr a :: ds)) (start N (.ref a :: us)) H := by
  have e := env_entry (N := N) (vs := .ref a :: us) (ds := .adr a :: ds) (.cons (.adr a) h) (by simpa using hN)
  refine ⟨fun b o _ q => q, e.inj, fun i p l q => .inr ((e.fr i p l q).elim (fun z => absurd z (by simp)) id), e.len, e.val, e.own, ?_, fun x q => q.mono x⟩
  rw [ows_entry, hid_nil]
  exact ⟨[], hx, rfl, .nil⟩
end
section
variable {P : Program} {w : World} {K : PySem.W.Frag} {mg : Str → Option Value} {base : Heap}
/-- the ends of an __init__ -/
def OkI (K : PySem.W.Frag) (H : Hp) (a C dx : Addr) (ns : List Str) (l : List Y.D) (D : Ends) : Prop := ∀ E σ H', Env K [a] H (ZI K a C dx ns l) E σ H' → D.nx σ H'
theorem sd_endI {H : Hp} {a C dx : Addr} {ns : List Str} {l : List Y.D} {D : Ends} {E : List Slot} (o : OkI K H a C dx ns l D) : SD K [a] H (ZI K a C dx ns l) tNext D E := fun σ H' e => o E σ H' e
theorem init_ok {x qual : Str} {st : Stmt} {f C : Addr} {fd : FuncData} {N ps : List Str} {k : Nat} {pre : List D → List Str → List D → Prop} (F : Fun K x qual st f fd) (S : FnScope N ps (defScope st)) (len : ∀ ds ns l, pre ds ns l → ds.length + 1 = ps.length) (hN : ps.length ≤ N.length)
    (hb : ∀ (cdv : Value) (A : Around) (outer : List PySem.Env) (s : Shared) (H : Hp) (E : XK), Room k (A.deeper (PyProof.Rows.envOfC qual (defScope st) s.heap.objs.size f cdv)) →
      ∃ t, PSs (cxOf CX0 P w K mg base N qual (defScope st) f cdv A outer s H E).nox (defBody st) t ∧ ∀ ds ns l a dx, pre ds ns l → ∀ D : Ends, OkI K H a C dx ns l D → SD K [a] H (ZI K a C dx [] []) t D (entry N (.adr a :: ds))) :
    FnOk P w K mg base CX0 (k + 1) f fd ps (InitP K C pre) := by
  refine F.ok S (fun vs H Q E h => ?_) (fun cdv A outer s H vs Q E hr h => ?_)
  · obtain ⟨x, dx, us, ds, ns, l, rfl, _, h1, h2, _⟩ := h
    have := len ds ns l h2
    rw [List.length_cons, h1.length, this]
  · obtain ⟨t, ht, hs⟩ := hb cdv A outer s H E hr
    refine ⟨t, ht, ?_⟩
    obtain ⟨x, dx, us, ds, ns, l, rfl, hx, h1, h2, h3⟩ := h
    have := len ds ns l h2
    refine hs ds ns l x dx h2 _ (fun E σ H' e => ?_) _ _ (env_entryI hx h1 (by omega))
    obtain ⟨fs, q1, q2, q3⟩ := e.pin
    exact h3 H' fs (fun a o ha q => e.ex a o (by simpa using ha) q) (hid_some q1).2 q2 (q3.mono (hid_le _ _))
end
section
variable {K : PySem.W.Frag} {B : List Addr} {H0 H : Hp} {Z : Hp → Prop} {E : List Slot} {ta tb tc te : TE} {t : TT} {ea : TA} {x y z d : D} {l m : List D} {b c : Bool} {De : Ends} {tx : TS} {C : Addr} {ns : List Str} {k : Nat}
theorem ep_make {pre : List D → List Str → List D → Prop} {ex : XK} (h : EA K B H0 Z ea E l) (hp : pre l ns m) : EP K B H0 Z (tMake C (InitP K C pre) [] ex ea) E (.ins C ns m) := fun σ H e Q q =>
  h σ H e _ fun vs H1 e1 h1 => fun x dx nx ndx ne => by
    have up : Ex H1 (upd (upd H1 dx (.own x)) x (.ins C dx [])) := (Ex.new ndx).trans (Ex.new (by rw [upd_ne (Ne.symm ne)]; exact nx))
    refine ⟨x, dx, vs, l, ns, m, by rw [List.append_nil], upd_same, h1.mono up, hp, fun H' fs k hx hn hl => ⟨rfl, q _ H' (fun a o z => ?_) (.ins hx hn hl)⟩⟩
    have z1 := e1 a o z
    exact k a o (fun y => by rw [y, nx] at z1; cases z1) (up a o z1)
theorem r1_inv {pre : List D → D → Prop} (hp : pre [.ins C ns l] d) : R1d K (rInv C (Pure K pre)) (.ins C ns l) d := fun v H h Q q => by
  obtain ⟨a, dx, fs, rfl, ha, hn, hl⟩ := h.ins_inv
  exact ⟨a, dx, fs, rfl, ha, [.ins C ns l], d, .one h, hp, q⟩
theorem r2_eqO {pre : List D → D → Prop} {ns' : List Str} (hp : pre [.ins C ns l, .ins C ns' m] d) : R2d K (rEqO K C (Pure K pre)) (.ins C ns l) (.ins C ns' m) d := fun v u H h h' Q q => by
  obtain ⟨a, dx, fs, rfl, ha, hn, hl⟩ := h.ins_inv
  obtain ⟨a', dx', fs', rfl, ha', hn', hl'⟩ := h'.ins_inv
  exact ⟨a, dx, fs, a', dx', fs', rfl, rfl, ha, ha', [.ins C ns l, .ins C ns' m], d, .cons h (.one h'), hp, q⟩
theorem look_none {H : Hp} {f : Str} : ∀ {fs : List (Str × V)}, f ∉ fs.map (·.1) → fs.lookup f = none
  | [], _ => rfl
  | (n, v) :: fs, h => by
    rw [L2.lookup_put, if_neg (fun z => h (by simp [z]))]
    exact look_none (H := H) (fun z => h (by simp at z ⊢; exact .inr z))
theorem ep_meS {me : Str} {pre : List D → D → Prop} {preX : List D → Addr → Int → Prop} {W : L2.St → XK} (ho : EP K B H0 Z ta E (.ins C ns l)) (hm : me ∉ ns) (h : EA K B H0 Z ea E m) (hp : pre (.ins C ns l :: m) d) : EP K B H0 Z (tMeS C me (PureX K pre preX) W ta ea) E d := fun σ H e Q q =>
  ho σ H e _ fun v H1 e1 h1 => by
    obtain ⟨a, dx, fs, rfl, ha, hn, hl⟩ := h1.ins_inv
    refine ⟨a, dx, fs, rfl, ha, look_none (H := H1) (by rw [hn]; exact hm), h σ H1 (e.ext e1) _ fun vs H2 e2 h2 => ⟨_, .cons (h1.mono e2) h2, .inl ⟨d, hp, fun v H3 e3 h3 => q v H3 ((e1.trans e2).trans e3) h3⟩⟩⟩
theorem er_meS {me : Str} {pre : List D → D → Prop} {preX : List D → Addr → Int → Prop} {W : L2.WX} {C' : Addr} {n : Int} (ho : EP K B H0 Z ta E (.ins C ns l)) (hm : me ∉ ns) (h : EA K B H0 Z ea E m) (hp : preX (.ins C ns l :: m) C' n) (hw : WX_ K B H0 Z E W C' n) : ER K B H0 Z (tMeS C me (PureX K pre preX) (WE W) ta ea) E := fun σ H e Q =>
  ho σ H e _ fun v H1 e1 h1 => by
    obtain ⟨a, dx, fs, rfl, ha, hn, hl⟩ := h1.ins_inv
    exact ⟨a, dx, fs, rfl, ha, look_none (H := H1) (by rw [hn]; exact hm), h σ H1 (e.ext e1) _ fun vs H2 e2 h2 => ⟨_, .cons (h1.mono e2) h2, .inr ⟨C', n, hp, fun dd H3 e3 h3 => hw σ H3 (e.ext ((e1.trans e2).trans e3)) dd h3⟩⟩⟩
end
end Y
set_option Elab.async false
set_option linter.all false
set_option autoImplicit false
set_option maxRecDepth 100000
set_option maxHeartbeats 1000000
/-! Draws: a list of ints that is handed on and popped; what comes out is any int in its bounds. -/
namespace Y
open PySem L2
/-- all but p stays -/
def Drw (H H' : Hp) (p : Addr) : Prop := ∀ a o, a ≠ p → H a = some o → H' a = some o
theorem Drw.refl (H : Hp) (p : Addr) : Drw H H p := fun _ _ _ h => h
theorem Drw.trans {H H1 H2 : Hp} {p : Addr} (a : Drw H H1 p) (b : Drw H1 H2 p) : Drw H H2 p := fun x o n h => b x o n (a x o n h)
theorem Ex.drw {H H' : Hp} {p : Addr} (e : Ex H H') : Drw H H' p := fun a o _ h => e a o h
theorem Drw.hid {H H' : Hp} {p : Addr} {P : List Addr} (d : Drw H H' p) (hp : p ∈ P) : Ex (hid P H) (hid P H') := fun a o h => by
  obtain ⟨h1, h2⟩ := hid_some h
  rw [hid_at h1]
  exact d a o (fun z => h1 (z ▸ hp)) h2
abbrev iv (ns : List Int) : HO := .lst (ns.map V.int)
abbrev dr (p : Addr) (ns : List Int) : Slot := .own p (ns.map D.int)
/-- the promise of a def that draws: its first parameter is the list at p -/
def DrawP (K : PySem.W.Frag) (ok : List D → Prop) (pre : List D → D → Prop) : Sp := fun vs H Q _ => ∃ p us ds ns, vs = .ref p :: us ∧ H p = some (iv ns) ∧ IsAll K (hid [p] H) us ds ∧ ok ds ∧
  ∀ v H' d ns', Drw H H' p → H' p = some (iv ns') → Is K (hid [p] H') v d → pre ds d → Q v H'
/-- the slots by what is left of the draws: at slot i, address p -/
structure DS (S : List Int → List Slot) (i : Nat) (p : Addr) : Prop where
  at_ : ∀ ns, (S ns)[i]? = some (dr p ns)
  set : ∀ ns ns', S ns' = (S ns).set i (dr p ns')
theorem ds_ows {S : List Int → List Slot} {i : Nat} {p : Addr} (h : DS S i p) (ns ns' : List Int) : ∀ a, a ∈ ows (S ns') ↔ a ∈ ows (S ns) := by
  have one : ∀ ns ns' a, a ∈ ows (S ns') → a ∈ ows (S ns) := fun ns ns' a ha => by
    obtain ⟨j, l, hj⟩ := mem_ows.mp ha
    rw [h.set ns ns'] at hj
    rcases set_get hj with ⟨rfl, z, _⟩ | ⟨_, z⟩
    · injection z with z1 z2
      exact mem_ows.mpr ⟨_, _, z1 ▸ h.at_ ns⟩
    · exact mem_ows.mpr ⟨j, l, z⟩
  exact fun a => ⟨one ns ns' a, one ns' ns a⟩
theorem hid_ows {S : List Int → List Slot} {i : Nat} {p : Addr} (h : DS S i p) (ns ns' : List Int) (H : Hp) : hid (ows (S ns')) H = hid (ows (S ns)) H := by
  funext a
  unfold Y.hid
  simp only [ds_ows h ns ns' a]
theorem ds_in {S : List Int → List Slot} {i : Nat} {p : Addr} (h : DS S i p) (ns : List Int) : p ∈ ows (S ns) := mem_ows.mpr ⟨i, _, h.at_ ns⟩
section
variable {K : PySem.W.Frag} {B : List Addr} {H0 : Hp} {Z : Hp → Prop} {E : List Slot} {S : List Int → List Slot} {i : Nat} {p : Addr} {ta tb tc te : TE} {t u : TT} {ea : TA} {x y z d : D} {l m : List D} {b c : Bool}
theorem Env.dat {ns : List Int} {σ : L2.St} {H : Hp} (h : DS S i p) (e : Env K B H0 Z (S ns) σ H) : σ[i]? = some (some (.ref p)) ∧ H p = some (iv ns) := by
  obtain ⟨h1, vs, h2, h3⟩ := e.own i p _ (h.at_ ns)
  rw [IsAll.ints h3] at h2
  exact ⟨h1, h2⟩
theorem Env.drawn {ns ns' : List Int} {σ : L2.St} {H H' : Hp} (h : DS S i p) (e : Env K B H0 Z (S ns) σ H) (dw : Drw H H' p) (hp : H' p = some (iv ns')) : Env K B H0 Z (S ns') σ H' := by
  have hi : i < (S ns).length := (List.getElem?_eq_some_iff.mp (h.at_ ns)).1
  have hd : Ex (Y.hid (ows (S ns)) H) (Y.hid (ows (S ns')) H') := by
    rw [hid_ows h ns ns']
    exact dw.hid (ds_in h ns)
  have cases' : ∀ {j : Nat} {s : Slot}, (S ns')[j]? = some s → (i = j ∧ s = dr p ns') ∨ (i ≠ j ∧ (S ns)[j]? = some s) := fun {j s} hj => by
    rw [h.set ns ns'] at hj
    rcases set_get hj with ⟨a, b, _⟩ | q
    · exact .inl ⟨a, b.symm⟩
    · exact .inr q
  have own' : ∀ {j : Nat} {q : Addr} {l : List D}, (S ns')[j]? = some (.own q l) → ∃ l', (S ns)[j]? = some (.own q l') := fun {j q l} hj => by
    rcases cases' hj with ⟨rfl, z⟩ | ⟨_, z⟩
    · injection z with z1 z2
      exact ⟨_, z1 ▸ h.at_ ns⟩
    · exact ⟨_, z⟩
  refine ⟨fun a o hb q => ?_, fun a b q l m h1 h2 => ?_, fun a q l h1 => ?_, ?_, fun j d q => ?_, fun j q l hj => ?_, e.zm hd e.pin, e.zm⟩
  · have hap : a ≠ p := fun z => by
      rcases e.fr i p _ (h.at_ ns) with w | w
      · exact hb (by rw [z]; exact w)
      · rw [z, w] at q; cases q
    exact dw a o hap (e.ex a o hb q)
  · obtain ⟨_, z1⟩ := own' h1
    obtain ⟨_, z2⟩ := own' h2
    exact e.inj a b q _ _ z1 z2
  · obtain ⟨_, z1⟩ := own' h1
    exact e.fr a q _ z1
  · rw [e.len, h.set ns ns', List.length_set]
  · rcases cases' q with ⟨_, z⟩ | ⟨_, z⟩
    · cases z
    · obtain ⟨w, q1, q2⟩ := e.val j d z
      exact ⟨w, q1, q2.mono hd⟩
  · rcases cases' hj with ⟨rfl, z⟩ | ⟨hij, z⟩
    · injection z with z1 z2
      subst z1 z2
      exact ⟨(e.dat h).1, _, hp, isAll_ints _⟩
    · obtain ⟨q1, vs, q2, q3⟩ := e.own j q l z
      have hqp : q ≠ p := fun w => hij (e.inj i j p _ _ (h.at_ ns) (w ▸ z))
      exact ⟨q1, vs, dw _ _ hqp q2, q3.mono hd⟩
end
section
variable (K : PySem.W.Frag) (B : List Addr) (H0 : Hp) (Z : Hp → Prop)
/-- an expression that may draw: its value is one of P -/
def EN (te : TE) (S : List Int → List Slot) (p : Addr) (P : D → Prop) : Prop := ∀ ns σ H, Env K B H0 Z (S ns) σ H → ∀ Q : VK, (∀ v d ns' H', P d → Env K B H0 Z (S ns') σ H' → Drw H H' p → Is K (hid (ows (S ns)) H') v d → Q v H') → te σ H Q
def ENA (ta : TA) (S : List Int → List Slot) (p : Addr) (P : List D → Prop) : Prop := ∀ ns σ H, Env K B H0 Z (S ns) σ H → ∀ Q : List V → Hp → Prop, (∀ vs l ns' H', P l → Env K B H0 Z (S ns') σ H' → Drw H H' p → IsAll K (hid (ows (S ns)) H') vs l → Q vs H') → ta σ H Q
def ENT (t : TT) (S : List Int → List Slot) (p : Addr) (P : Bool → Prop) : Prop := ∀ ns σ H, Env K B H0 Z (S ns) σ H → ∀ Q : Bool → Hp → Prop, (∀ b ns' H', P b → Env K B H0 Z (S ns') σ H' → Drw H H' p → Q b H') → t σ H Q
/-- arguments whose values stand apart -/
def EAC (ta : TA) (E : List Slot) (l : List D) : Prop := ∀ σ H, Env K B H0 Z E σ H → ∀ Q : List V → Hp → Prop, (∀ vs H', Ex H H' → IsAll K (hid (ows E) H') vs l → Q vs H') → ta σ H Q
end
section
variable {K : PySem.W.Frag} {B : List Addr} {H0 : Hp} {Z : Hp → Prop} {E : List Slot} {S : List Int → List Slot} {i : Nat} {p : Addr} {ta tb tc te : TE} {t u : TT} {ea : TA} {x y z d : D} {l m : List D} {b c : Bool}
theorem eac_nil : EAC K B H0 Z tNil E [] := fun σ H _ Q q => q [] H (Ex.refl H) .nil
theorem eac_cons {tr : TA} (h : EC K B H0 Z te E d) (hr : EAC K B H0 Z tr E l) : EAC K B H0 Z (tCons te tr) E (d :: l) := fun σ H e Q q =>
  h σ H e _ fun v H1 e1 h1 => hr σ H1 (e.ext e1) _ fun vs H2 e2 h2 => q _ H2 (e1.trans e2) (.cons (h1.mono (hid_ex e2)) h2)
theorem ec_int {k : Int} : EC K B H0 Z (tC (.int k)) E (.int k) := ec_im ep_int rfl
theorem new_no {σ : L2.St} {H : Hp} {q : Addr} (e : Env K B H0 Z E σ H) (nq : H q = none) : q ∉ ows E := fun m => by
  obtain ⟨xs, w⟩ := e.lsts q m
  rw [nq] at w
  cases w
/-- [a, b, ..] of anything -/
theorem ec_lst (h : EAC K B H0 Z ea E l) (hl : l.length ≤ 100000 := by simp) : EC K B H0 Z (tLst ea) E (.lst l) := fun σ H e Q q =>
  h σ H e _ fun vs H1 e1 h1 => ⟨by rw [h1.length, sizeLine_eq]; omega, fun a na => q _ _ (e1.trans (Ex.new na)) (.lst (SqL.of (by rw [hid_at (new_no (e.ext e1) na)]; exact upd_same)) (h1.mono (hid_ex (Ex.new na))))⟩
theorem ec_ixL {k : Int} (h : EC K B H0 Z ta E (.lst l)) (hk : atI l k = some d) : EC K B H0 Z (tOp (rIxL K) ta (tC (.int k))) E d := fun σ H e Q q =>
  h σ H e _ fun v H1 e1 h1 => by
    cases h1 with
    | lst hq ht =>
      rename_i a xs
      have hl := ht.length
      obtain ⟨j, hj1, hj2⟩ := Option.bind_eq_some_iff.mp hk
      obtain ⟨v, hv, hv2⟩ := ht.getD hj2
      exact ⟨a, xs, k, v, rfl, rfl, sqL_ex (hid_le _ _) hq, Option.bind_eq_some_iff.mpr ⟨j, by rw [hl]; exact hj1, hv⟩, q v H1 e1 hv2⟩
theorem en_ec {P : D → Prop} (h : ∀ ns, EC K B H0 Z te (S ns) d) (hd : DS S i p) (hP : P d) : EN K B H0 Z te S p P := fun ns σ H e Q q => h ns σ H e Q fun v H' x h1 => q v d ns H' hP (e.ext x) x.drw h1
theorem en_weak {P P' : D → Prop} (h : EN K B H0 Z te S p P) (hw : ∀ d, P d → P' d) : EN K B H0 Z te S p P' := fun ns σ H e Q q => h ns σ H e Q fun v d ns' H' hp => q v d ns' H' (hw d hp)
theorem drw_is {ns : List Int} {v : V} {H H' : Hp} (hd : DS S i p) (dw : Drw H H' p) (h : Is K (hid (ows (S ns)) H) v d) : Is K (hid (ows (S ns)) H') v d := h.mono (dw.hid (ds_in hd ns))
theorem drw_isA {ns : List Int} {vs : List V} {H H' : Hp} (hd : DS S i p) (dw : Drw H H' p) (h : IsAll K (hid (ows (S ns)) H) vs l) : IsAll K (hid (ows (S ns)) H') vs l := h.mono (dw.hid (ds_in hd ns))
theorem ena_nil (hd : DS S i p) {P : List D → Prop} (hP : P []) : ENA K B H0 Z tNil S p P := fun ns σ H e Q q => q [] [] ns H hP e (Drw.refl H p) .nil
theorem ena_cons {tr : TA} {P1 : D → Prop} {P2 : D → List D → Prop} {P : List D → Prop} (hd : DS S i p) (h : EN K B H0 Z te S p P1) (hr : ∀ d, P1 d → ENA K B H0 Z tr S p (P2 d)) (hP : ∀ d l, P1 d → P2 d l → P (d :: l)) : ENA K B H0 Z (tCons te tr) S p P := fun ns σ H e Q q =>
  h ns σ H e _ fun v d ns1 H1 p1 e1 w1 h1 => hr d p1 ns1 σ H1 e1 _ fun vs l ns2 H2 p2 e2 w2 h2 => q _ (d :: l) ns2 H2 (hP d l p1 p2) e2 (w1.trans w2) (.cons (drw_is hd w2 h1) (by rw [hid_ows hd ns ns1] at h2; exact h2))
theorem en_op {r : R2} {P1 : D → Prop} {P2 : D → D → Prop} {P : D → Prop} (hd : DS S i p) (ha : EN K B H0 Z ta S p P1) (hb : ∀ x, P1 x → EN K B H0 Z tb S p (P2 x)) (hr : ∀ x y, P1 x → P2 x y → ∃ z, R2d K r x y z ∧ z.im = true ∧ P z) : EN K B H0 Z (tOp r ta tb) S p P := fun ns σ H e Q q =>
  ha ns σ H e _ fun v x ns1 H1 p1 e1 w1 h1 => hb x p1 ns1 σ H1 e1 _ fun u y ns2 H2 p2 e2 w2 h2 => by
    obtain ⟨z, hz, im, pz⟩ := hr x y p1 p2
    refine hz v u H2 ((drw_is hd w2 h1).mono (hid_le _ _)) (h2.mono (hid_le _ _)) Q fun o H3 x3 h3 => q o z ns2 H3 pz (e2.ext x3) ((w1.trans w2).trans x3.drw) ?_
    rw [← hid_ows hd ns ns2]
    exact h3.clean (e2.ext x3).lsts im
/-- a def that draws, called -/
theorem en_draw {tr : TA} {ok : List D → Prop} {pre : List D → D → Prop} {P : D → Prop} {ex : XK} (hd : DS S i p) (h : ∀ ns, EAC K B H0 Z tr (S ns) l) (hok : ok l) (hP : ∀ d, pre l d → P d) (him : (∀ d, pre l d → d.im = true) ∨ ∀ ns, ows (S ns) = [p]) :
    EN K B H0 Z (tCall (DrawP K ok pre) [] ex (tCons (tVar i) tr)) S p P := fun ns σ H e Q q => by
  obtain ⟨s1, s2⟩ := e.dat hd
  refine ⟨.ref p, s1, h ns σ H e _ fun vs H1 e1 h1 => ?_⟩
  refine ⟨p, vs, l, ns, by simp, e1 _ _ s2, h1.mono (hid_sub fun a ha => by simp at ha; rw [ha]; exact ds_in hd ns), hok, fun v H' d ns' w hp hv hpre => ?_⟩
  have e' := (e.ext e1).drawn hd w hp
  refine q v d ns' H' (hP d hpre) e' (e1.drw.trans w) ?_
  rcases him with hi | hi
  · have hc := (hv.mono (hid_le _ _)).clean e'.lsts (hi d hpre)
    rwa [hid_ows hd ns ns'] at hc
  · rw [hi ns]
    exact hv
theorem en_callP {ex : XK} {pre : List D → D → Prop} {PA : List D → Prop} {P : D → Prop} (hd : DS S i p) (h : ENA K B H0 Z ea S p PA) (hp : ∀ l, PA l → ∃ d, pre l d ∧ d.im = true ∧ P d) : EN K B H0 Z (tCall (Pure K pre) [] ex ea) S p P := fun ns σ H e Q q =>
  h ns σ H e _ fun vs l ns1 H1 p1 e1 w1 h1 => by
    obtain ⟨d, hd1, im, pd⟩ := hp l p1
    refine ⟨l, d, by rw [List.append_nil]; exact h1.mono (hid_le _ _), hd1, fun v H2 e2 h2 => q v d ns1 H2 pd (e1.ext e2) (w1.trans e2.drw) ?_⟩
    rw [← hid_ows hd ns ns1]
    exact h2.clean (e1.ext e2).lsts im
theorem en_callF {ex : XK} {pre : List D → List D → Prop} {PA : List D → Prop} {P : D → Prop} (hd : DS S i p) (h : ENA K B H0 Z ea S p PA) (hp : ∀ l, PA l → ∃ m, pre l m ∧ imAll m = true ∧ P (.lst m)) : EN K B H0 Z (tCall (Fresh K pre) [] ex ea) S p P := fun ns σ H e Q q =>
  h ns σ H e _ fun vs l ns1 H1 p1 e1 w1 h1 => by
    obtain ⟨m, hd1, im, pd⟩ := hp l p1
    refine ⟨l, m, by rw [List.append_nil]; exact h1.mono (hid_le _ _), hd1, fun a ws H2 na e2 ha h2 => q _ (.lst m) ns1 H2 pd (e1.ext e2) (w1.trans e2.drw) ?_⟩
    rw [← hid_ows hd ns ns1]
    exact .lst (SqL.of (by rw [hid_at (new_no e1 na)]; exact ha)) (h2.clean (e1.ext e2).lsts im)
theorem en_lst {PA : List D → Prop} {P : D → Prop} (hd : DS S i p) (h : ENA K B H0 Z ea S p PA) (hl : ∀ l, PA l → l.length ≤ 100000) (hP : ∀ l, PA l → P (.lst l)) : EN K B H0 Z (tLst ea) S p P := fun ns σ H e Q q =>
  h ns σ H e _ fun vs l ns1 H1 p1 e1 w1 h1 => ⟨by rw [h1.length, sizeLine_eq]; have := hl l p1; omega, fun a na => q _ (.lst l) ns1 _ (hP l p1) (e1.ext (Ex.new na)) (w1.trans (Ex.new na).drw) (.lst (SqL.of (by
    rw [← hid_ows hd ns ns1, hid_at (new_no e1 na)]
    exact upd_same)) (h1.mono (hid_ex (Ex.new na))))⟩
/-! ### tests, statements, a def that draws -/
variable {De : Ends} {tx ty : TS}
theorem ent_ev {P1 : D → Prop} {P : Bool → Prop} (h : EN K B H0 Z te S p P1) (hp : ∀ d, P1 d → ∃ b, d = .bl b ∧ P b) : ENT K B H0 Z (tTest te) S p P := fun ns σ H e Q q =>
  h ns σ H e _ fun v d ns' H' p1 e1 w1 h1 => by
    obtain ⟨b, rfl, pb⟩ := hp d p1
    cases h1
    exact ⟨b, rfl, q b ns' H' pb e1 w1⟩
theorem ent_et {P : Bool → Prop} (h : ∀ ns, ET K B H0 Z t (S ns) b) (hP : P b) : ENT K B H0 Z t S p P := fun ns σ H e Q q => h ns σ H e Q fun H' x => q b ns H' hP (e.ext x) x.drw
theorem ent_or {P1 P2 P : Bool → Prop} (h1 : ENT K B H0 Z t S p P1) (h2 : ENT K B H0 Z u S p P2) (hP : (P1 true → P true) ∧ ∀ b, P1 false → P2 b → P b) : ENT K B H0 Z (tOr t u) S p P := fun ns σ H e Q q =>
  h1 ns σ H e _ fun b ns1 H1 p1 e1 w1 => by
    cases b with
    | true => exact q true ns1 H1 (hP.1 p1) e1 w1
    | false => exact h2 ns1 σ H1 e1 _ fun b ns2 H2 p2 e2 w2 => q b ns2 H2 (hP.2 b p1 p2) e2 (w1.trans w2)
theorem sd_asgN {j : Nat} {P : D → Prop} (hd : DS S i p) (h : EN K B H0 Z te S p P) (k : ∀ d ns, P d → SD K B H0 Z tNext De ((S ns).set j (.val d))) : ∀ ns, SD K B H0 Z (tAsg te (gName j)) De (S ns) := fun ns σ H e =>
  h ns σ H e _ fun v d ns1 H1 p1 e1 w1 h1 => k d ns1 p1 _ H1 (e1.setC (by rw [hid_ows hd ns ns1]; exact h1))
theorem sd_ifN {P : Bool → Prop} (h : ENT K B H0 Z t S p P) (h1 : P true → ∀ ns, SD K B H0 Z tx De (S ns)) (h2 : P false → ∀ ns, SD K B H0 Z ty De (S ns)) : ∀ ns, SD K B H0 Z (tIfS t tx ty) De (S ns) := fun ns σ H e =>
  h ns σ H e _ fun b ns1 H1 p1 e1 w1 => by
    cases b with
    | true => exact h1 p1 ns1 σ H1 e1
    | false => exact h2 p1 ns1 σ H1 e1
/-- for _ in range(..), the bound drawn -/
theorem sd_forN {j : Nat} {tu : TS} {P : Int → Prop} (hd : DS S i p) (h : EN K B H0 Z te S p (fun d => ∃ n : Int, d = .int n ∧ P n ∧ 0 ≤ n ∧ n ≤ 100000)) (W : Nat → List Slot → Prop)
    (h0 : ∀ ns, W 0 (S ns)) (hs : ∀ (n : Int) (k : Nat) E, P n → (k : Int) < n → W k E → SD K B H0 Z tu (LW K B H0 Z De (W (k + 1))) (E.set j (.val (.int k)))) (hdn : ∀ n E, P n → 0 ≤ n → W n.toNat E → SD K B H0 Z tNext De E) :
    ∀ ns, SD K B H0 Z (tFor (iRng1 (tCons te tNil)) (gName j) tu) De (S ns) := fun ns σ H e =>
  h ns σ H e _ fun v d ns1 H1 p1 e1 w1 h1 => by
    obtain ⟨n, rfl, pn, n0, n1⟩ := p1
    cases h1
    refine ⟨n, rfl, by omega, by omega, for_range (lo := 0) (n := n.toNat) (fun k σ' H' => ∃ E, W k E ∧ Env K B H0 Z E σ' H') ⟨S ns1, h0 ns1, e1⟩ (fun k σ' H' hk ⟨E1, pi, q⟩ => ?_) (fun σ' H' ⟨E1, pi, q⟩ => hdn n E1 pn n0 pi _ _ q)⟩
    have e0 : (0 : Int) + (k : Int) = (k : Int) := Int.zero_add _
    show tu _ (σ'.set j (some (.int ((0 : Int) + (k : Int))))) H'
    rw [e0]
    exact hs n k E1 pn (by omega) pi _ _ (q.set (.int _) rfl)
end
/-- the ends of a def that draws -/
def OkD (K : PySem.W.Frag) (H : Hp) (p : Addr) (pre : D → Prop) (De : Ends) : Prop := ∀ v H' d ns', Drw H H' p → H' p = some (iv ns') → Is K (hid [p] H') v d → pre d → De.rt v H'
section
variable {K : PySem.W.Frag} {H0 : Hp} {Z : Hp → Prop} {S : List Int → List Slot} {i : Nat} {p : Addr} {te : TE} {d : D} {l : List D} {De : Ends} {pre : D → Prop}
theorem env_drw {ns : List Int} {σ : L2.St} {H : Hp} (hd : DS S i p) (e : Env K [p] H0 Z (S ns) σ H) : Drw H0 H p ∧ H p = some (iv ns) := ⟨fun a o n q => e.ex a o (by simpa using n) q, (e.dat hd).2⟩
theorem hid_one {ns : List Int} {H : Hp} (hd : DS S i p) : Ex (hid (ows (S ns)) H) (hid [p] H) := hid_sub fun a ha => by simp at ha; rw [ha]; exact ds_in hd ns
theorem sd_retD {ns : List Int} (hd : DS S i p) (h : EC K [p] H0 Z te (S ns) d) (o : OkD K H0 p pre De) (hp : pre d) : SD K [p] H0 Z (tRet te) De (S ns) := fun σ H e =>
  h σ H e _ fun v H1 e1 h1 => by
    obtain ⟨w1, w2⟩ := env_drw hd (e.ext e1)
    exact o v H1 d ns w1 w2 (h1.mono (hid_one hd)) hp
theorem sd_retDN {P : D → Prop} (hd : DS S i p) (h : EN K [p] H0 Z te S p P) (o : OkD K H0 p pre De) (hp : ∀ d, P d → pre d) : ∀ ns, SD K [p] H0 Z (tRet te) De (S ns) := fun ns σ H e =>
  h ns σ H e _ fun v d ns1 H1 p1 e1 _ h1 => by
    obtain ⟨w1, w2⟩ := env_drw hd e1
    exact o v H1 d ns1 w1 w2 (h1.mono (hid_one hd)) (hp d p1)
/-- an own list is handed back -/
theorem sd_retDO {ns : List Int} {j : Nat} {q : Addr} (hd : DS S i p) (hj : (S ns)[j]? = some (.own q l)) (hij : i ≠ j) (o : OkD K H0 p pre De) (hp : pre (.lst l)) : SD K [p] H0 Z (tRet (tVar j)) De (S ns) := fun σ H e => by
  obtain ⟨h1, vs, h2, h3⟩ := e.own j q l hj
  obtain ⟨w1, w2⟩ := env_drw hd e
  have hqp : q ≠ p := fun z => hij (e.inj i j p _ _ (hd.at_ ns) (z ▸ hj))
  exact ⟨_, h1, o _ H _ ns w1 w2 (.lst (SqL.of (by rw [hid_at (by simpa using hqp)]; exact h2)) (h3.mono (hid_one hd))) hp⟩
/-- the entry -/
def entryD (N : List Str) (p : Addr) (ds : List D) (ns : List Int) : List Slot := dr p ns :: (ds.map .val ++ List.replicate (N.length - (ds.length + 1)) .no)
theorem ds_entry (N : List Str) (p : Addr) (ds : List D) : DS (entryD N p ds) 0 p := ⟨fun _ => rfl, fun _ _ => rfl⟩
theorem ows_entryD (N : List Str) (p : Addr) (ds : List D) (ns : List Int) : ows (entryD N p ds ns) = [p] := by
  unfold entryD
  show p :: ows _ = [p]
  congr 1
  refine List.eq_nil_iff_forall_not_mem.mpr fun q hq => ?_
  obtain ⟨j, l, h⟩ := mem_ows.mp hq
  rcases List.mem_append.mp (List.mem_of_getElem? h) with h | h
  · obtain ⟨_, _, h⟩ := List.mem_map.mp h
    cases h
  · have := (List.mem_replicate.mp h).2
    cases this
theorem env_entryD {N : List Str} {us : List V} {ds : List D} {H : Hp} {ns : List Int} (hp : H p = some (iv ns)) (h : IsAll K (hid [p] H) us ds) (hN : ds.length + 1 ≤ N.length) : Env K [p] H (fun _ => True) (entryD N p ds ns) (start N (.ref p :: us)) H := by
  have hl := h.length
  have own1 : ∀ {j : Nat} {q : Addr} {l : List D}, (entryD N p ds ns)[j]? = some (.own q l) → j = 0 ∧ q = p ∧ l = ns.map D.int := fun {j q l} hj => by
    cases j with
    | zero =>
      have : dr p ns = .own q l := Option.some.inj hj
      injection this with a b
      exact ⟨rfl, a.symm, b.symm⟩
    | succ j =>
      have hj' : (ds.map Slot.val ++ List.replicate (N.length - (ds.length + 1)) .no)[j]? = some (.own q l) := hj
      rcases List.mem_append.mp (List.mem_of_getElem? hj') with h | h
      · obtain ⟨_, _, h⟩ := List.mem_map.mp h
        cases h
      · have := (List.mem_replicate.mp h).2
        cases this
  refine ⟨fun a o _ q => q, fun a b q l m h1 h2 => by rw [(own1 h1).1, (own1 h2).1], fun a q l h1 => .inl (by rw [(own1 h1).2.1]; simp), ?_, fun j d q => ?_, fun j q l hj => ?_, trivial, fun _ _ => trivial⟩
  · simp [L2.start, entryD, hl]
  · cases j with
    | zero =>
      have : dr p ns = .val d := Option.some.inj q
      cases this
    | succ j =>
      have hj' : (ds.map Slot.val ++ List.replicate (N.length - (ds.length + 1)) .no)[j]? = some (.val d) := q
      rw [ows_entryD]
      by_cases hi : j < ds.length
      · rw [List.getElem?_append_left (by simpa using hi), List.getElem?_map] at hj'
        cases e : ds[j]? with
        | none => rw [e] at hj'; cases hj'
        | some d' =>
          rw [e] at hj'
          have : d' = d := by simpa using hj'
          subst this
          obtain ⟨v, h1, h2⟩ := h.getD e
          refine ⟨v, ?_, h2⟩
          unfold L2.start
          rw [List.getElem?_append_left (by simp [hl]; omega), List.getElem?_map, List.getElem?_cons_succ, h1]
          rfl
      · rw [List.getElem?_append_right (by simpa using hi)] at hj'
        have := (List.mem_replicate.mp (List.mem_of_getElem? hj')).2
        cases this
  · obtain ⟨rfl, rfl, rfl⟩ := own1 hj
    refine ⟨rfl, _, hp, isAll_ints _⟩
end
section
variable {P : Program} {w : World} {K : PySem.W.Frag} {mg : Str → Option Value} {base : Heap}
theorem draw_ok {x qual : Str} {st : Stmt} {f : Addr} {fd : FuncData} {N ps : List Str} {k : Nat} {ok : List D → Prop} {pre : List D → D → Prop} (F : Fun K x qual st f fd) (S : FnScope N ps (defScope st)) (len : ∀ ds, ok ds → ds.length + 1 = ps.length) (hN : ps.length ≤ N.length)
    (hb : ∀ (cdv : Value) (A : Around) (outer : List PySem.Env) (s : Shared) (H : Hp) (E : XK), Room k (A.deeper (PyProof.Rows.envOfC qual (defScope st) s.heap.objs.size f cdv)) →
      ∃ t, PSs (cxOf CX0 P w K mg base N qual (defScope st) f cdv A outer s H E).nox (defBody st) t ∧ ∀ ds p, ok ds → ∀ D : Ends, OkD K H p (pre ds) D → (pre ds .non → ∀ σ H' ns', Drw H H' p → H' p = some (iv ns') → D.nx σ H') → ∀ ns, SD K [p] H (fun _ => True) t D (entryD N p ds ns)) :
    FnOk P w K mg base CX0 (k + 1) f fd ps (DrawP K ok pre) := by
  refine F.ok S (fun vs H Q E h => ?_) (fun cdv A outer s H vs Q E hr h => ?_)
  · obtain ⟨p, us, ds, ns, rfl, _, h1, h2, _⟩ := h
    have := len ds h2
    rw [List.length_cons, h1.length, this]
  · obtain ⟨t, ht, hs⟩ := hb cdv A outer s H E hr
    refine ⟨t, ht, ?_⟩
    obtain ⟨p, us, ds, ns, rfl, hp, h1, h2, h3⟩ := h
    have := len ds h2
    exact hs ds p h2 _ (fun v H' d ns' a b c e => h3 v H' d ns' a b c e) (fun hn σ H' ns' a b => h3 .non H' .non ns' a b .non hn) ns _ _ (env_entryD hp h1 (by omega))
end
end Y
set_option Elab.async false
set_option linter.all false
set_option autoImplicit false
set_option maxRecDepth 100000
set_option maxHeartbeats 1000000
/-! A comprehension over a range whose test draws; xs.append(ys.pop(drawn)). -/
namespace Y
open PySem L2
/-- a number as a value -/
def vN (n : Nat) : V := .int (n : Int)
/-- a test that does nothing but draw -/
def DT (tt : TT) (i : Nat) (p : Addr) : Prop := ∀ σ H ns, σ[i]? = some (some (.ref p)) → H p = some (iv ns) → ∀ Q : Bool → Hp → Prop, (∀ b H' ns', Drw H H' p → H' p = some (iv ns') → Q b H') → tt σ H Q
section
variable {K : PySem.W.Frag} {B : List Addr} {H0 : Hp} {Z : Hp → Prop} {E : List Slot} {S : List Int → List Slot} {i : Nat} {p : Addr} {ta tb tc te : TE} {t u : TT} {ea : TA} {x y z d : D} {l m : List D} {b c : Bool} {De : Ends}
theorem isAll_iD {H : Hp} : ∀ (xs : List Nat), IsAll K H (xs.map vN) (xs.map iD)
  | [] => .nil
  | x :: xs => .cons (.int _) (isAll_iD xs)
/-- [x for x in range(n) if a draw] -/
theorem en_lcD {j : Nat} {n : Int} (hd : DS S i p) (hij : i ≠ j) (hj : ∀ ns, j < (S ns).length) (h : ∀ ns, EA K B H0 Z ea (S ns) [.int n]) (hn : 0 ≤ n ∧ n < 100000) (ht : DT t i p) :
    EN K B H0 Z (tLc (iRng1 ea) (gName j) t (tVar j) [j]) S p (fun d => ∃ xs : List Nat, xs.Pairwise (· < ·) ∧ (∀ x ∈ xs, (x : Int) < n) ∧ d = .lst (xs.map iD)) := fun ns σ H e Q q =>
  h ns σ H e _ fun vs H1 e1 h1 => by
    have e' := e.ext e1
    obtain ⟨sp, hp⟩ := e'.dat hd
    have : vs = [.int n] := by
      cases h1 with
      | cons a t => cases a; cases t; rfl
    subst this
    refine ⟨n, rfl, by omega, by omega, fun a na => ?_⟩
    have ap : a ≠ p := fun z => by rw [z, hp] at na; cases na
    have hjl : j < σ.length := by rw [e.len]; exact hj ns
    refine lc_range (lo := 0) (n := n.toNat) (fun k H' => ∃ (ns' : List Int) (xs : List Nat), H' a = some (.lst (xs.map vN)) ∧ xs.Pairwise (· < ·) ∧ (∀ x ∈ xs, x < k) ∧ xs.length ≤ k ∧ H' p = some (iv ns') ∧ ∀ b o, b ≠ p → b ≠ a → H1 b = some o → H' b = some o) ?_ ?_ ?_
    · exact ⟨ns, [], upd_same, .nil, by simp, by simp, by rw [upd_ne (Ne.symm ap)]; exact hp, fun b o _ hb z => by rw [upd_ne hb]; exact z⟩
    · rintro k H2 hk ⟨ns', xs, c1, c2, c3, c4, c5, c6⟩
      have e0 : (0 : Int) + (k : Int) = (k : Int) := Int.zero_add _
      rw [e0]
      show wipe ((wipe σ [j]).set j (some (.int k))) [j] = wipe σ [j] ∧ _
      refine ⟨wipe1 σ j _, ?_⟩
      have sp2 : ((wipe σ [j]).set j (some (.int k)))[i]? = some (some (.ref p)) := by
        show ((σ.set j none).set j (some (.int k)))[i]? = _
        rw [List.getElem?_set_ne (Ne.symm hij), List.getElem?_set_ne (Ne.symm hij)]
        exact sp
      refine ht _ H2 ns' sp2 c5 _ fun b H3 ns3 w3 hp3 => ?_
      cases b with
      | false => exact ⟨ns3, xs, w3 _ _ ap c1, c2, fun x hx => Nat.lt_succ_of_lt (c3 x hx), Nat.le_succ_of_le c4, hp3, fun b o hb ha z => w3 _ _ hb (c6 b o hb ha z)⟩
      | true =>
        rw [if_pos rfl]
        refine ⟨.int k, ?_, _, w3 _ _ ap c1, ?_, ns3, xs ++ [k], ?_, ?_, ?_, ?_, ?_, ?_⟩
        · show ((σ.set j none).set j (some (.int k)))[j]? = _
          rw [List.getElem?_set_self (by simpa using hjl)]
        · rw [List.length_map, sizeLine_eq]; omega
        · rw [upd_same, List.map_append]; rfl
        · exact List.pairwise_append.mpr ⟨c2, by simp, fun x hx y hy => by simp at hy; rw [hy]; exact c3 x hx⟩
        · intro x hx
          rcases List.mem_append.mp hx with hx | hx
          · exact Nat.lt_succ_of_lt (c3 x hx)
          · simp at hx; omega
        · simp; omega
        · rw [upd_ne (Ne.symm ap)]; exact hp3
        · intro b o hb ha z
          rw [upd_ne ha]
          exact w3 _ _ hb (c6 b o hb ha z)
    · rintro H2 ⟨ns', xs, c1, c2, c3, c4, c5, c6⟩
      have dw : Drw H1 H2 p := fun b o hb z => c6 b o hb (fun w => by rw [w, na] at z; cases z) z
      refine q _ _ ns' H2 ⟨xs, c2, fun x hx => by have := c3 x hx; omega, rfl⟩ (e'.drawn hd dw c5) (e1.drw.trans dw) (.lst (SqL.of ?_) (isAll_iD xs))
      rw [hid_at (new_no e' na)]
      exact c1
theorem ers_map {α β : Type} (f : α → β) : ∀ (l : List α) (x : Nat), (l.map f).eraseIdx x = (l.eraseIdx x).map f
  | [], _ => rfl
  | _ :: _, 0 => rfl
  | a :: l, x + 1 => by
    show f a :: (l.map f).eraseIdx x = f a :: (l.eraseIdx x).map f
    rw [ers_map f l x]
theorem ints_vN {H : Hp} : ∀ {vs : List V} {l : List Nat}, IsAll K H vs (l.map iD) → vs = l.map vN
  | _, [], .nil => rfl
  | _, n :: ns, .cons h t => by
    cases h
    rw [ints_vN t]
    rfl
theorem sd_appPop {jl jn : Nat} {q1 q2 : Addr} {left names : List Nat} (hd : DS S i p) (h1 : ∀ ns, (S ns)[jl]? = some (.own q1 (left.map iD))) (h2 : ∀ ns, (S ns)[jn]? = some (.own q2 (names.map iD))) (hne : jl ≠ jn) (he : EN K B H0 Z te S p (fun d => ∃ x, x < left.length ∧ d = iD x))
    (hz : names.length < 1000 ∧ left.length < 1000) (k : ∀ ns x (hx : x < left.length), SD K B H0 Z tNext De (((S ns).set jl (.own q1 ((left.eraseIdx x).map iD))).set jn (.own q2 ((names ++ [left[x]]).map iD)))) :
    ∀ ns, SD K B H0 Z (tDrop (tBM K "list" rAppend (tVar jn) (tCons (tBM K "list" rPopAt (tVar jl) (tCons te tNil)) tNil))) De (S ns) := fun ns σ H e => by
  obtain ⟨s2, vs2, c2, _⟩ := e.own jn q2 _ (h2 ns)
  obtain ⟨s1, vs1, c1, _⟩ := e.own jl q1 _ (h1 ns)
  refine ⟨.ref q2, s2, .inl ⟨rfl, _, SqL.of c2⟩, .ref q1, s1, .inl ⟨rfl, _, SqL.of c1⟩, he ns σ H e _ fun v d ns1 H1 p1 e1 w1 hv => ?_⟩
  obtain ⟨x, hx, rfl⟩ := p1
  cases hv
  obtain ⟨_, vs3, c3, c4⟩ := e1.own jl q1 _ (h1 ns1)
  rw [ints_vN c4] at c3
  have hix : ixN (left.map vN).length (x : Int) = some x := by
    unfold ixN
    rw [List.length_map, if_pos (by omega), if_pos (by omega)]
    simp
  have hy : (left.map vN)[x]? = some (vN left[x]) := by rw [List.getElem?_map, List.getElem?_eq_getElem hx]; rfl
  refine ⟨q1, left.map vN, x, x, vN left[x], rfl, rfl, c3, by omega, by omega, (ixN_seq hix).1, hy, ?_⟩
  have ee : (left.map vN).eraseIdx x = (left.eraseIdx x).map vN := ers_map vN left x
  rw [ee]
  have e2 := e1.chg (l' := (left.eraseIdx x).map iD) (vs' := (left.eraseIdx x).map vN) (h1 ns1) (isAll_iD _)
  have g2 : ((S ns1).set jl (.own q1 ((left.eraseIdx x).map iD)))[jn]? = some (.own q2 (names.map iD)) := by rw [List.getElem?_set_ne hne]; exact h2 ns1
  obtain ⟨_, vs5, c5, c6⟩ := e2.own jn q2 _ g2
  rw [ints_vN c6] at c5
  refine ⟨q2, names.map vN, vN left[x], rfl, rfl, c5, by rw [List.length_map, sizeLine_eq]; omega, ?_⟩
  have e3 := e2.chg (l' := (names ++ [left[x]]).map iD) (vs' := (names ++ [left[x]]).map vN) g2 (isAll_iD _)
  have := k ns1 x hx σ _ e3
  rw [List.map_append] at this
  exact this
end
end Y
set_option Elab.async false
set_option linter.all false
set_option autoImplicit false
set_option maxRecDepth 100000
set_option maxHeartbeats 1000000
/-! [..] + drawn[i:j]. -/
namespace Y
open PySem L2
section
variable {K : PySem.W.Frag} {B : List Addr} {H0 : Hp} {Z : Hp → Prop} {E : List Slot} {S : List Int → List Slot} {i : Nat} {p : Addr} {ta tb tc te : TE} {l m : List D}
theorem en_catS {a b : Int} {P1 : List D → Prop} {P : D → Prop} (hd : DS S i p) (ha : ∀ ns, EF K B H0 Z ta (S ns) m) (him : imAll m = true) (h : EN K B H0 Z te S p (fun d => ∃ l, d = .lst l ∧ P1 l)) (hz : m.length ≤ 1000 ∧ ∀ l, P1 l → l.length ≤ 1000) (hp : ∀ l l', P1 l → l'.Sublist l → P (.lst (m ++ l'))) :
    EN K B H0 Z (tOp rCat ta (tSl (rSlL K) te (tPart (tC (.int a))) (tPart (tC (.int b))))) S p P := fun ns σ H e Q q =>
  ha ns σ H e _ fun r vs H1 nr e1 hr ir => by
    have e' := e.ext e1
    have rp : r ≠ p := fun z => by
      have := e1 _ _ (e.dat hd).2
      have h0 := (e.dat hd).2
      rw [← z, nr] at h0
      cases h0
    have rno : r ∉ ows (S ns) := new_no e nr
    have ir' : IsAll K (hid (ows (S ns)) H1) vs m := ir.clean e'.lsts him
    refine h ns σ H1 e' _ fun v d ns2 H2 p2 e2 w2 h2 => ?_
    obtain ⟨l, rfl, pl⟩ := p2
    cases h2 with
    | lst hq ht =>
      rename_i x xs
      refine ⟨a, rfl, b, rfl, x, xs, rfl, sqL_ex (hid_le _ _) hq, fun y ny => ?_⟩
      have hr2 : H2 r = some (.lst vs) := w2 _ _ rp hr
      have ex3 : Ex H2 (upd H2 y (.lst (cutV xs (some a) (some b)))) := Ex.new ny
      have hc : ∃ l', l'.Sublist l ∧ IsAll K (hid (ows (S ns)) H2) (cutV xs (some a) (some b)) l' := ⟨_, (List.take_sublist _ _).trans (List.drop_sublist _ _), (ht.drop _).take _⟩
      obtain ⟨l', hl', hc⟩ := hc
      have hlen : l'.length ≤ 1000 := Nat.le_trans hl'.length_le (hz.2 l pl)
      refine ⟨r, y, vs, cutV xs (some a) (some b), rfl, rfl, ex3 _ _ hr2, upd_same, by rw [ir.length, hc.length, sizeLine_eq]; have := hz.1; omega, fun z nz => ?_⟩
      have ex4 := ex3.trans (Ex.new (o := .lst (vs ++ cutV xs (some a) (some b))) nz)
      have e4 := e2.ext ex4
      have zno : z ∉ ows (S ns) := fun hm => new_no (e2.ext ex3) nz ((ds_ows hd ns ns2 z).mpr hm)
      refine q _ (.lst (m ++ l')) ns2 _ (hp l l' pl hl') e4 ((e1.drw.trans w2).trans ex4.drw) (.lst (SqL.of (by rw [hid_at zno]; exact upd_same)) ?_)
      exact ((ir'.mono (w2.hid (ds_in hd ns))).append hc).mono (hid_ex ex4)
end
end Y
set_option autoImplicit false
/-! What is drawn: lots over n things, none within another, in order. -/
namespace KM
theorem sortN_mem {l : T} {x : Nat} : x ∈ sortN l ↔ x ∈ l := (sortN_perm l).mem_iff
theorem sortN_le (l : T) : (sortN l).Pairwise (· ≤ ·) := by
  have h := List.pairwise_mergeSort (le := fun (a b : Nat) => decide (a ≤ b)) (fun a b c h1 h2 => by simp at *; omega) (fun a b => by simp; omega) l
  exact h.imp fun h => by simpa using h
theorem sortN_nd {l : T} (h : l.Nodup) : Asc (sortN l) := by
  have nd : (sortN l).Nodup := (sortN_perm l).nodup_iff.mpr h
  have := List.Pairwise.and (sortN_le l) nd
  exact this.imp fun {a b} h => by omega
/-- the lots of a small family -/
structure GF (n : Nat) (ls : List T) : Prop where
  n1 : 1 ≤ n
  ne : ls ≠ []
  g : Good ls
  lne : ∀ l ∈ ls, l ≠ []
  lt : ∀ l ∈ ls, ∀ x ∈ l, x < n
theorem GF.up {n m : Nat} {ls : List T} (h : GF n ls) (hm : n ≤ m) : GF m ls := ⟨Nat.le_trans h.n1 hm, h.ne, h.g, h.lne, fun l hl x hx => Nat.lt_of_lt_of_le (h.lt l hl x hx) hm⟩
theorem Good.sub {ls ls' : List T} (h : Good ls) (s : ls'.Sublist ls) : Good ls' := ⟨fun l hl => h.asc l (s.subset hl), h.lt.sublist s, fun l hl m hm => h.anti l (s.subset hl) m (s.subset hm)⟩
theorem GF.sub {n : Nat} {ls ls' : List T} (h : GF n ls) (s : ls'.Sublist ls) (ne : ls' ≠ []) : GF n ls' := ⟨h.n1, ne, h.g.sub s, fun l hl => h.lne l (s.subset hl), fun l hl => h.lt l (s.subset hl)⟩
/-! ### moved by a permutation -/
def mv (names : T) (l : T) : T := sortN (l.map fun t => names.getD t 0)
theorem getD_inj {names : T} {n : Nat} (h : names.Perm (List.range n)) {a b : Nat} (ha : a < n) (hb : b < n) (e : names.getD a 0 = names.getD b 0) : a = b := by
  have hl : names.length = n := by rw [h.length_eq, List.length_range]
  have nd : names.Nodup := h.nodup_iff.mpr List.nodup_range
  have h1 : a < names.length := by omega
  have h2 : b < names.length := by omega
  simp only [List.getD, List.getElem?_eq_getElem h1, List.getElem?_eq_getElem h2, Option.getD_some] at e
  rcases Nat.lt_trichotomy a b with h | h | h
  · exact absurd e ((List.pairwise_iff_getElem.mp nd) a b h1 h2 h)
  · exact h
  · exact absurd e.symm ((List.pairwise_iff_getElem.mp nd) b a h2 h1 h)
theorem getD_lt {names : T} {n : Nat} (h : names.Perm (List.range n)) {a : Nat} (ha : a < n) : names.getD a 0 < n := by
  have hl : names.length = n := by rw [h.length_eq, List.length_range]
  have h1 : a < names.length := by omega
  simp only [List.getD, List.getElem?_eq_getElem h1, Option.getD_some]
  exact List.mem_range.mp (h.mem_iff.mp (List.getElem_mem h1))
theorem mem_mv {names l : T} {x : Nat} : x ∈ mv names l ↔ ∃ t ∈ l, names.getD t 0 = x := by
  unfold mv
  rw [sortN_mem, List.mem_map]
theorem mv_asc {names l : T} {n : Nat} (h : names.Perm (List.range n)) (a : Asc l) (hl : ∀ x ∈ l, x < n) : Asc (mv names l) := by
  refine sortN_nd (List.pairwise_map.mpr ?_)
  refine (List.Pairwise.and_mem.mp a).imp ?_
  rintro x y ⟨hx, hy, hxy⟩ e
  have := getD_inj h (hl x hx) (hl y hy) e
  omega
theorem mv_sub {names l m : T} {n : Nat} (h : names.Perm (List.range n)) (hl : ∀ x ∈ l, x < n) (hm : ∀ x ∈ m, x < n) (s : ∀ x ∈ mv names l, x ∈ mv names m) : ∀ x ∈ l, x ∈ m := fun x hx => by
  obtain ⟨t, ht, e⟩ := mem_mv.mp (s _ (mem_mv.mpr ⟨x, hx, rfl⟩))
  have := getD_inj h (hm t ht) (hl x hx) e
  rw [← this]; exact ht
theorem moved_gf {names : T} {n : Nat} {ls : List T} (h : names.Perm (List.range n)) (g : GF n ls) : GF n (srt (ls.map (mv names))) := by
  have inj : ∀ l ∈ ls, ∀ m ∈ ls, mv names l = mv names m → l = m := fun l hl m hm e => g.g.anti l hl m hm (mv_sub h (g.lt l hl) (g.lt m hm) (fun x hx => e ▸ hx))
  have nd : (ls.map (mv names)).Nodup := by
    refine List.pairwise_map.mpr ?_
    refine (List.Pairwise.and_mem.mp (nodup_of_lt g.g.lt)).imp ?_
    rintro a b ⟨ha, hb, hne⟩ e
    exact hne (inj a ha b hb e)
  have mem : ∀ x, x ∈ srt (ls.map (mv names)) ↔ ∃ l ∈ ls, mv names l = x := fun x => by rw [srt_mem, List.mem_map]
  refine ⟨g.n1, fun z => ?_, ⟨fun l hl => ?_, srt_lt nd, fun l hl m hm s => ?_⟩, fun l hl z => ?_, fun l hl x hx => ?_⟩
  · obtain ⟨l, hl⟩ := List.exists_mem_of_ne_nil _ g.ne
    have := (mem (mv names l)).mpr ⟨l, hl, rfl⟩
    rw [z] at this
    cases this
  · obtain ⟨k, hk, rfl⟩ := (mem l).mp hl
    exact mv_asc h (g.g.asc k hk) (g.lt k hk)
  · obtain ⟨k, hk, rfl⟩ := (mem l).mp hl
    obtain ⟨k', hk', rfl⟩ := (mem m).mp hm
    rw [g.g.anti k hk k' hk' (mv_sub h (g.lt k hk) (g.lt k' hk') s)]
  · obtain ⟨k, hk, rfl⟩ := (mem l).mp hl
    obtain ⟨x, hx⟩ := List.exists_mem_of_ne_nil _ (g.lne k hk)
    have : names.getD x 0 ∈ mv names k := mem_mv.mpr ⟨x, hx, rfl⟩
    rw [z] at this
    cases this
  · obtain ⟨k, hk, rfl⟩ := (mem l).mp hl
    obtain ⟨t, ht, rfl⟩ := mem_mv.mp hx
    exact getD_lt h (g.lt k hk t ht)
/-! ### the least of some lots -/
theorem leastL_mem_aux (lots : List T) : ∀ (r k : List T), k.Nodup → (∀ l ∈ r, l ∈ lots) →
    (r.foldl (leastL1 lots) k).Nodup ∧ ∀ x, x ∈ r.foldl (leastL1 lots) k ↔ x ∈ k ∨ (x ∈ r ∧ ∀ o ∈ lots, o ≠ x → ¬ ∀ y ∈ o, y ∈ x)
  | [], k, nd, _ => ⟨nd, fun x => by simp⟩
  | a :: r, k, nd, hr => by
    have hf : ∀ lot : T, (lots.filter fun o => !decide (o = lot) && inside o lot).length == 0 ↔ ∀ o ∈ lots, o ≠ lot → ¬ ∀ y ∈ o, y ∈ lot := fun lot => by
      rw [beq_iff_eq, List.length_eq_zero_iff, List.filter_eq_nil_iff]
      constructor
      · intro h o ho hne hs
        exact h o ho (by simp [hne, inside_iff.mpr hs])
      · intro h o ho hx
        simp only [Bool.and_eq_true, Bool.not_eq_true', decide_eq_false_iff_not] at hx
        exact h o ho hx.1 (inside_iff.mp hx.2)
    have hk : (leastL1 lots k a).Nodup ∧ ∀ x, x ∈ leastL1 lots k a ↔ x ∈ k ∨ (x = a ∧ ∀ o ∈ lots, o ≠ x → ¬ ∀ y ∈ o, y ∈ x) := by
      unfold leastL1
      split
      · rename_i h
        exact ⟨nd, fun x => ⟨.inl, fun z => z.elim id fun z => z.1 ▸ h⟩⟩
      · rename_i h
        split
        · rename_i h2
          have h2' := (hf a).mp h2
          refine ⟨List.pairwise_append.mpr ⟨nd, List.pairwise_singleton _ _, fun x hx y hy e => h (by simp at hy; rw [← hy, ← e]; exact hx)⟩, fun x => ?_⟩
          rw [List.mem_append, List.mem_singleton]
          exact ⟨fun z => z.imp id fun z => ⟨z, z ▸ h2'⟩, fun z => z.imp id fun z => z.1⟩
        · rename_i h2
          refine ⟨nd, fun x => ⟨.inl, fun z => z.elim id fun z => ?_⟩⟩
          exact absurd ((hf a).mpr (z.1 ▸ z.2)) h2
    obtain ⟨h1, h2⟩ := leastL_mem_aux lots r _ hk.1 (fun l hl => hr l (List.mem_cons_of_mem _ hl))
    refine ⟨h1, fun x => ?_⟩
    rw [List.foldl_cons, h2, hk.2, List.mem_cons]
    constructor
    · rintro ((h | ⟨rfl, h⟩) | ⟨h, h'⟩)
      · exact .inl h
      · exact .inr ⟨.inl rfl, h⟩
      · exact .inr ⟨.inr h, h'⟩
    · rintro (h | ⟨rfl | h, h'⟩)
      · exact .inl (.inl h)
      · exact .inl (.inr ⟨rfl, h'⟩)
      · exact .inr ⟨h, h'⟩
theorem leastL_mem {lots : List T} {x : T} : x ∈ leastL lots ↔ x ∈ lots ∧ ∀ o ∈ lots, o ≠ x → ¬ ∀ y ∈ o, y ∈ x := by
  unfold leastL
  rw [srt_mem, (leastL_mem_aux lots lots [] List.nodup_nil fun _ h => h).2]
  simp
theorem leastL_lt (lots : List T) : (leastL lots).Pairwise (· < ·) := srt_lt (leastL_mem_aux lots lots [] List.nodup_nil fun _ h => h).1
theorem least_ex {lots : List T} (ha : ∀ l ∈ lots, Asc l) : ∀ (k : Nat) (l : T), l ∈ lots → l.length = k → ∃ m ∈ leastL lots, ∀ y ∈ m, y ∈ l := by
  intro k
  induction k using Nat.strongRecOn with
  | ind k ih =>
    intro l hl hk
    by_cases h : ∀ o ∈ lots, o ≠ l → ¬ ∀ y ∈ o, y ∈ l
    · exact ⟨l, leastL_mem.mpr ⟨hl, h⟩, fun _ h => h⟩
    · obtain ⟨o, ho, hne, hs⟩ : ∃ o, o ∈ lots ∧ o ≠ l ∧ ∀ y ∈ o, y ∈ l := Classical.byContradiction fun z => h fun o ho hne hs => z ⟨o, ho, hne, hs⟩
      have hlt : o.length < l.length := by
        have e : o = l.filter (fun x => decide (x ∈ o)) := asc_ext (ha o ho) ((ha l hl).filter _) fun x => by
          rw [List.mem_filter, decide_eq_true_iff]
          exact ⟨fun hx => ⟨hs x hx, hx⟩, fun hx => hx.2⟩
        have h1 := List.length_filter_le (fun x => decide (x ∈ o)) l
        rw [← e] at h1
        rcases Nat.lt_or_eq_of_le h1 with h1 | h1
        · exact h1
        · exfalso
          apply hne
          have h2 := List.length_filter_eq_length_iff.mp (show (l.filter (fun x => decide (x ∈ o))).length = l.length by rw [← e]; exact h1)
          exact asc_ext (ha o ho) (ha l hl) fun x => ⟨hs x, fun hx => by simpa using h2 x hx⟩
      obtain ⟨m, hm, h1⟩ := ih o.length (hk ▸ hlt) o ho rfl
      exact ⟨m, hm, fun y hy => hs y (h1 y hy)⟩
theorem least_gf {n : Nat} {fs : List T} (n1 : 1 ≤ n) (ne : fs ≠ []) (ha : ∀ l ∈ fs, Asc l) (hn : ∀ l ∈ fs, l ≠ []) (hl : ∀ l ∈ fs, ∀ x ∈ l, x < n) : GF n (leastL fs) := by
  refine ⟨n1, fun z => ?_, ⟨fun l h => ha l (leastL_mem.mp h).1, leastL_lt fs, fun l h m h' s => ?_⟩, fun l h => hn l (leastL_mem.mp h).1, fun l h => hl l (leastL_mem.mp h).1⟩
  · obtain ⟨l, hl⟩ := List.exists_mem_of_ne_nil _ ne
    obtain ⟨m, hm, _⟩ := least_ex ha _ l hl rfl
    rw [z] at hm
    cases hm
  · by_cases e : l = m
    · exact e
    · exact absurd s ((leastL_mem.mp h').2 l (leastL_mem.mp h).1 e)
/-! ### all sets of one size -/
theorem sized_mem {n k : Nat} {s : T} : s ∈ sized n k ↔ Asc s ∧ (∀ x ∈ s, x < n) ∧ s.length = k := by
  unfold sized
  rw [srt_mem, List.mem_filter, subsets_mem, beq_iff_eq]
  exact and_assoc
theorem sub_eq {l m : T} (a : Asc l) (b : Asc m) (s : ∀ x ∈ l, x ∈ m) (e : m.length ≤ l.length) : l = m := by
  have h1 : l = m.filter (fun x => decide (x ∈ l)) := asc_ext a (b.filter _) fun x => by
    rw [List.mem_filter, decide_eq_true_iff]
    exact ⟨fun hx => ⟨s x hx, hx⟩, fun hx => hx.2⟩
  have h2 := List.length_filter_le (fun x => decide (x ∈ l)) m
  rw [← h1] at h2
  have h3 := List.length_filter_eq_length_iff.mp (show (m.filter (fun x => decide (x ∈ l))).length = m.length by rw [← h1]; omega)
  exact asc_ext a b fun x => ⟨s x, fun hx => by simpa using h3 x hx⟩
theorem sized_gf {n k : Nat} (h1 : 1 ≤ k) (h2 : k ≤ n) : GF n (sized n k) := by
  refine ⟨by omega, fun z => ?_, ⟨fun l h => (sized_mem.mp h).1, srt_lt ((subsets_nodup n).sublist List.filter_sublist), fun l h m h' s => ?_⟩, fun l h z => ?_, fun l h => (sized_mem.mp h).2.1⟩
  · have : List.range k ∈ sized n k := sized_mem.mpr ⟨range_asc k, fun x hx => by have := List.mem_range.mp hx; omega, List.length_range⟩
    rw [z] at this
    cases this
  · exact sub_eq (sized_mem.mp h).1 (sized_mem.mp h').1 s (by rw [(sized_mem.mp h).2.2, (sized_mem.mp h').2.2]; exact Nat.le_refl _)
  · have := (sized_mem.mp h).2.2
    rw [z] at this
    simp at this
    omega
end KM
set_option autoImplicit false
/-! The sets that meet all lots, the least of them: the step by step walk over masks makes just them. -/
namespace KM
/-- m meets all of L -/
def TrM (L : List T) (m : Nat) : Prop := ∀ l ∈ L, ∃ x ∈ l, m.testBit x = true
/-- .. and each of its things has a lot of its own -/
def MinM (L : List T) (m : Nat) : Prop := TrM L m ∧ ∀ e, m.testBit e = true → ∃ l ∈ L, ∀ x ∈ l, m.testBit x = true → x = e
theorem TrM.up {L : List T} {m k : Nat} (h : TrM L m) (s : Sb m k) : TrM L k := fun l hl => let ⟨x, h1, h2⟩ := h l hl; ⟨x, h1, s x h2⟩
/-- two of them, one within the other -/
theorem MinM.eq {L : List T} {m k : Nat} (h : TrM L m) (g : MinM L k) (s : Sb m k) : m = k := by
  refine Sb.antisymm s fun e he => ?_
  obtain ⟨l, hl, hp⟩ := g.2 e he
  obtain ⟨x, h1, h2⟩ := h l hl
  rw [← hp x h1 (s x h2)]
  exact h2
theorem bit_pow {e x : Nat} : (2 ^ e).testBit x = decide (e = x) := Nat.testBit_two_pow
/-- m without e -/
def wo (m e : Nat) : Nat := m ^^^ (m &&& 2 ^ e)
theorem wo_bit {m e x : Nat} : (wo m e).testBit x = true ↔ m.testBit x = true ∧ x ≠ e := by
  unfold wo
  rw [Nat.testBit_xor, Nat.testBit_and, bit_pow]
  by_cases h : e = x
  · subst h
    cases m.testBit e <;> simp
  · have h' : x ≠ e := fun z => h z.symm
    cases m.testBit x <;> simp [h, h']
theorem wo_lt {m e : Nat} (h : m.testBit e = true) : wo m e < m := by
  have s : Sb (wo m e) m := fun x hx => (wo_bit.mp hx).1
  rcases Nat.lt_or_eq_of_le s.le with z | z
  · exact z
  · rw [← z] at h
    exact absurd rfl (wo_bit.mp h).2
/-- each that meets all holds a least one -/
theorem min_in {L : List T} : ∀ (m : Nat), TrM L m → ∃ k, MinM L k ∧ Sb k m := by
  intro m
  induction m using Nat.strongRecOn with
  | ind m ih =>
    intro h
    by_cases hm : ∀ e, m.testBit e = true → ∃ l ∈ L, ∀ x ∈ l, m.testBit x = true → x = e
    · exact ⟨m, ⟨h, hm⟩, Sb.refl m⟩
    · obtain ⟨e, he, hne⟩ : ∃ e, m.testBit e = true ∧ ¬ ∃ l ∈ L, ∀ x ∈ l, m.testBit x = true → x = e := Classical.byContradiction fun z => hm fun e he => Classical.byContradiction fun z2 => z ⟨e, he, z2⟩
      have ht : TrM L (wo m e) := fun l hl => by
        obtain ⟨x, h1, h2, h3⟩ : ∃ x ∈ l, m.testBit x = true ∧ x ≠ e := Classical.byContradiction fun z => hne ⟨l, hl, fun x hx hb => Classical.byContradiction fun z2 => z ⟨x, hx, hb, z2⟩⟩
        exact ⟨x, h1, wo_bit.mpr ⟨h2, h3⟩⟩
      obtain ⟨k, hk, hs⟩ := ih (wo m e) (wo_lt he) ht
      exact ⟨k, hk, hs.trans fun x hx => (wo_bit.mp hx).1⟩
theorem and_ne {a : T} (ha : Asc a) {m : Nat} : (m &&& maskOf a != 0) = true ↔ ∃ x ∈ a, m.testBit x = true := by
  rw [bne_iff_ne, ne_eq, and_zero_iff]
  constructor
  · intro h
    refine Classical.byContradiction fun z => h fun i hi => ?_
    rw [mask_bit ha]
    exact decide_eq_false fun hm => z ⟨i, hm, hi⟩
  · rintro ⟨x, h1, h2⟩ h
    have := h x h2
    rw [mask_bit ha, decide_eq_false_iff_not] at this
    exact this h1
theorem and_pow {a : T} (ha : Asc a) {m e : Nat} : (m &&& maskOf a == 2 ^ e) = true ↔ ∀ x, (m.testBit x = true ∧ x ∈ a) ↔ x = e := by
  rw [beq_iff_eq]
  constructor
  · intro h x
    have := congrArg (fun n => n.testBit x) h
    simp only [Nat.testBit_and, mask_bit ha, bit_pow] at this
    rw [Bool.eq_iff_iff] at this
    simp at this
    rw [this]
    exact ⟨fun h => h.symm, fun h => h.symm⟩
  · intro h
    apply Nat.eq_of_testBit_eq
    intro x
    rw [Nat.testBit_and, mask_bit ha, bit_pow, Bool.eq_iff_iff]
    simp
    rw [h x]
    exact ⟨fun h => h.symm, fun h => h.symm⟩
theorem or_bit {m e x : Nat} : (m ||| 2 ^ e).testBit x = true ↔ m.testBit x = true ∨ x = e := by
  rw [Nat.testBit_or, bit_pow, Bool.or_eq_true, decide_eq_true_iff]
  exact or_congr Iff.rfl ⟨fun h => h.symm, fun h => h.symm⟩
theorem not_sb {a b : Nat} : (a &&& b != a) = true ↔ ¬ Sb a b := by
  rw [bne_iff_ne, ne_eq, and_left_iff]
/-! the step, part by part -/
def okWide (met : List Nat) (mask e one : Nat) : Bool := (met.filter (fun t => t &&& mask == 2 ^ e)).all (fun two => two &&& (one ||| 2 ^ e) != two)
theorem grown_eq (met : List Nat) (mask : Nat) (missed : List Nat) (e : Nat) : ∀ (g : List Nat), grownAt met missed mask g e = g ++ (missed.filter (okWide met mask e)).map (fun one => one ||| 2 ^ e) := by
  unfold grownAt
  induction missed with
  | nil => intro g; simp
  | cons a r ih =>
    intro g
    rw [List.foldl_cons, ih]
    by_cases h : ((met.filter (fun t => t &&& mask == 2 ^ e)).all (fun two => two &&& (a ||| 2 ^ e) != two)) = true
    · rw [if_pos h, List.filter_cons_of_pos (show okWide met mask e a = true from h)]
      simp
    · rw [if_neg h, List.filter_cons_of_neg (show ¬ okWide met mask e a = true from h)]
theorem nd_flat {f : Nat → List Nat} : ∀ (a : T), a.Pairwise (fun e e' => ∀ x ∈ f e, x ∉ f e') → (∀ e ∈ a, (f e).Nodup) → (a.flatMap f).Nodup
  | [], _, _ => by simp
  | e :: a, h, k => by
    obtain ⟨h1, h2⟩ := List.pairwise_cons.mp h
    rw [List.flatMap_cons]
    refine List.pairwise_append.mpr ⟨k e List.mem_cons_self, nd_flat a h2 fun e he => k e (List.mem_cons_of_mem _ he), fun x hx y hy z => ?_⟩
    obtain ⟨e', he', hy'⟩ := List.mem_flatMap.mp hy
    exact h1 e' he' x hx (z ▸ hy')
theorem grown_all (met : List Nat) (mask : Nat) (missed : List Nat) : ∀ (a : T) (g : List Nat), a.foldl (grownAt met missed mask) g = g ++ a.flatMap (fun e => (missed.filter (okWide met mask e)).map (fun one => one ||| 2 ^ e))
  | [], g => by simp
  | e :: a, g => by
    rw [List.foldl_cons, grown_all met mask missed a, grown_eq]
    simp
structure Kp (L : List T) (k : List Nat) : Prop where
  nd : k.Nodup
  mem : ∀ m, m ∈ k ↔ MinM L m
theorem step_kp {L : List T} {k : List Nat} {a : T} (h : Kp L k) (ha : Asc a) : Kp (L ++ [a]) (blkStep k a) := by
  have e0 : blkStep k a = k.filter (fun one => one &&& maskOf a != 0) ++ a.flatMap (fun e => ((k.filter (fun one => one &&& maskOf a == 0)).filter (okWide (k.filter (fun one => one &&& maskOf a != 0)) (maskOf a) e)).map (fun one => one ||| 2 ^ e)) := by
    unfold blkStep
    rw [grown_all]
    simp
  have hmet : ∀ m, m ∈ k.filter (fun one => one &&& maskOf a != 0) ↔ MinM L m ∧ ∃ x ∈ a, m.testBit x = true := fun m => by rw [List.mem_filter, h.mem, and_ne ha]
  have hmis : ∀ m, m ∈ k.filter (fun one => one &&& maskOf a == 0) ↔ MinM L m ∧ ∀ x ∈ a, m.testBit x = false := fun m => by
    rw [List.mem_filter, h.mem, beq_iff_eq, and_zero_iff]
    refine and_congr Iff.rfl ⟨fun z x hx => ?_, fun z i hi => ?_⟩
    · cases hb : m.testBit x with
      | false => rfl
      | true =>
        have := z x hb
        rw [mask_bit ha, decide_eq_false_iff_not] at this
        exact absurd hx this
    · rw [mask_bit ha, decide_eq_false_iff_not]
      intro hx
      rw [z i hx] at hi
      cases hi
  have hok : ∀ e one, okWide (k.filter (fun one => one &&& maskOf a != 0)) (maskOf a) e one = true ↔ ∀ two, MinM L two → (∀ x, (two.testBit x = true ∧ x ∈ a) ↔ x = e) → ¬ Sb two (one ||| 2 ^ e) := fun e one => by
    unfold okWide
    rw [List.all_eq_true]
    constructor
    · intro z two h1 h2
      refine not_sb.mp (z two (List.mem_filter.mpr ⟨(hmet two).mpr ⟨h1, e, ((h2 e).mpr rfl).2, ((h2 e).mpr rfl).1⟩, (and_pow ha).mpr h2⟩))
    · intro z two ht
      obtain ⟨h1, h2⟩ := List.mem_filter.mp ht
      exact not_sb.mpr (z two ((hmet two).mp h1).1 ((and_pow ha).mp h2))
  rw [e0]
  have one_eq : ∀ {e one m}, e ∈ a → (∀ x ∈ a, one.testBit x = false) → one ||| 2 ^ e = m → (∀ x, (m.testBit x = true ∧ x ∈ a) ↔ x = e) ∧ one = wo m e := fun {e one m} he hmiss hm => by
    subst hm
    refine ⟨fun x => ?_, ?_⟩
    · rw [or_bit]
      constructor
      · rintro ⟨h1 | h1, h2⟩
        · rw [hmiss x h2] at h1; cases h1
        · exact h1
      · rintro rfl
        exact ⟨.inr rfl, he⟩
    · refine Sb.antisymm (fun x hx => wo_bit.mpr ⟨or_bit.mpr (.inl hx), fun z => by rw [z, hmiss e he] at hx; cases hx⟩) fun x hx => ?_
      obtain ⟨h1, h2⟩ := wo_bit.mp hx
      exact (or_bit.mp h1).resolve_right h2
  refine ⟨?_, fun m => ?_⟩
  · refine List.pairwise_append.mpr ⟨h.nd.sublist List.filter_sublist, ?_, fun x hx y hy e => ?_⟩
    · refine nd_flat a ((List.Pairwise.and_mem.mp ha).imp ?_) fun e he => ?_
      · rintro e e' ⟨he, he', hlt⟩ x hx hx'
        obtain ⟨o, ho, h1⟩ := List.mem_map.mp hx
        obtain ⟨o', ho', h1'⟩ := List.mem_map.mp hx'
        have q := (one_eq he ((hmis o).mp (List.mem_filter.mp ho).1).2 h1).1
        have q' := (one_eq he' ((hmis o').mp (List.mem_filter.mp ho').1).2 h1').1
        have := (q' e).mp ((q e).mpr rfl)
        omega
      · refine List.pairwise_map.mpr ?_
        refine (List.Pairwise.and_mem.mp ((h.nd.sublist List.filter_sublist).sublist List.filter_sublist)).imp ?_
        rintro x y ⟨hx, hy, hne⟩ z
        have hx' := ((hmis x).mp (List.mem_filter.mp hx).1).2
        have hy' := ((hmis y).mp (List.mem_filter.mp hy).1).2
        exact hne ((one_eq he hx' rfl).2.trans (z ▸ (one_eq he hy' rfl).2.symm))
    · subst e
      obtain ⟨e, he, hx'⟩ := List.mem_flatMap.mp hy
      obtain ⟨o, ho, h1⟩ := List.mem_map.mp hx'
      obtain ⟨g1, g2⟩ := (hmis o).mp (List.mem_filter.mp ho).1
      have := MinM.eq g1.1 ((hmet x).mp hx).1 (fun i hi => h1 ▸ or_bit.mpr (.inl hi))
      have hb : x.testBit e = true := h1 ▸ or_bit.mpr (.inr rfl)
      rw [← this, g2 e he] at hb
      cases hb
  · rw [List.mem_append, hmet, List.mem_flatMap]
    constructor
    · rintro (⟨g1, x, hx, hb⟩ | ⟨e, he, hm⟩)
      · refine ⟨fun l hl => ?_, fun e he => ?_⟩
        · rcases List.mem_append.mp hl with hl | hl
          · exact g1.1 l hl
          · simp at hl
            rw [hl]
            exact ⟨x, hx, hb⟩
        · obtain ⟨l, hl, hp⟩ := g1.2 e he
          exact ⟨l, List.mem_append_left _ hl, hp⟩
      · obtain ⟨o, ho, h1⟩ := List.mem_map.mp hm
        obtain ⟨ho1, ho2⟩ := List.mem_filter.mp ho
        obtain ⟨g1, g2⟩ := (hmis o).mp ho1
        have cond := (hok e o).mp ho2
        obtain ⟨q1, q2⟩ := one_eq he g2 h1
        have so : Sb o m := fun i hi => h1 ▸ or_bit.mpr (.inl hi)
        refine ⟨fun l hl => ?_, fun f hf => ?_⟩
        · rcases List.mem_append.mp hl with hl | hl
          · exact g1.1.up so l hl
          · simp at hl
            rw [hl]
            exact ⟨e, he, ((q1 e).mpr rfl).1⟩
        · by_cases hfe : f = e
          · subst hfe
            exact ⟨a, by simp, fun x hx hb => (q1 x).mp ⟨hb, hx⟩⟩
          · refine Classical.byContradiction fun z => ?_
            have ht : TrM L (wo m f) := fun l hl => by
              obtain ⟨x, hx, hb, hne⟩ : ∃ x ∈ l, m.testBit x = true ∧ x ≠ f := Classical.byContradiction fun z2 => z ⟨l, List.mem_append_left _ hl, fun x hx hb => Classical.byContradiction fun z3 => z2 ⟨x, hx, hb, z3⟩⟩
              exact ⟨x, hx, wo_bit.mpr ⟨hb, hne⟩⟩
            obtain ⟨two, t1, t2⟩ := min_in (wo m f) ht
            have sm : Sb two m := fun i hi => (wo_bit.mp (t2 i hi)).1
            have het : two.testBit e = true := by
              cases hb : two.testBit e with
              | true => rfl
              | false =>
                exfalso
                have s1 : Sb two o := fun i hi => by
                  rw [q2]
                  exact wo_bit.mpr ⟨sm i hi, fun w => by rw [w, hb] at hi; cases hi⟩
                have e1 := MinM.eq t1.1 g1 s1
                have hfo : o.testBit f = true := by
                  rw [q2]
                  exact wo_bit.mpr ⟨hf, hfe⟩
                rw [← e1] at hfo
                exact (wo_bit.mp (t2 f hfo)).2 rfl
            refine cond two t1 (fun x => ⟨fun hx => (q1 x).mp ⟨sm x hx.1, hx.2⟩, fun hx => hx ▸ ⟨het, he⟩⟩) ?_
            rw [h1]
            exact sm
    · intro hm
      have hta : ∃ x ∈ a, m.testBit x = true := hm.1 a (by simp)
      have hTL : TrM L m := fun l hl => hm.1 l (List.mem_append_left _ hl)
      by_cases hL : MinM L m
      · exact .inl ⟨hL, hta⟩
      · refine .inr ?_
        obtain ⟨e, he, hne⟩ : ∃ e, m.testBit e = true ∧ ¬ ∃ l ∈ L, ∀ x ∈ l, m.testBit x = true → x = e := Classical.byContradiction fun z => hL ⟨hTL, fun e he => Classical.byContradiction fun z2 => z ⟨e, he, z2⟩⟩
        obtain ⟨l, hl, hp⟩ := hm.2 e he
        have hla : l = a := by
          rcases List.mem_append.mp hl with hl | hl
          · exact absurd ⟨l, hl, hp⟩ hne
          · simpa using hl
        subst hla
        have hel : e ∈ l := by
          obtain ⟨x, hx, hb⟩ := hta
          rw [← hp x hx hb]
          exact hx
        have q1 : ∀ x, (m.testBit x = true ∧ x ∈ l) ↔ x = e := fun x => ⟨fun h => hp x h.2 h.1, fun h => h ▸ ⟨he, hel⟩⟩
        have mis : ∀ x ∈ l, (wo m e).testBit x = false := fun x hx => by
          cases hb : (wo m e).testBit x with
          | false => rfl
          | true =>
            obtain ⟨h1, h2⟩ := wo_bit.mp hb
            exact absurd (hp x hx h1) h2
        have hw : wo m e ||| 2 ^ e = m := by
          refine Sb.antisymm (fun x hx => ?_) fun x hx => ?_
          · rcases or_bit.mp hx with h | h
            · exact (wo_bit.mp h).1
            · rw [h]; exact he
          · by_cases hxe : x = e
            · exact or_bit.mpr (.inr hxe)
            · exact or_bit.mpr (.inl (wo_bit.mpr ⟨hx, hxe⟩))
        have g1 : MinM L (wo m e) := by
          refine ⟨fun k hk => ?_, fun f hf => ?_⟩
          · obtain ⟨x, hx, hb, hxe⟩ : ∃ x ∈ k, m.testBit x = true ∧ x ≠ e := Classical.byContradiction fun z => hne ⟨k, hk, fun x hx hb => Classical.byContradiction fun z2 => z ⟨x, hx, hb, z2⟩⟩
            exact ⟨x, hx, wo_bit.mpr ⟨hb, hxe⟩⟩
          · obtain ⟨hf1, hf2⟩ := wo_bit.mp hf
            obtain ⟨k, hk, hkp⟩ := hm.2 f hf1
            rcases List.mem_append.mp hk with hk | hk
            · exact ⟨k, hk, fun x hx hb => hkp x hx (wo_bit.mp hb).1⟩
            · have : k = l := by simpa using hk
              subst this
              exact absurd (hkp e hel he).symm hf2
        refine ⟨e, hel, List.mem_map.mpr ⟨wo m e, List.mem_filter.mpr ⟨(hmis _).mpr ⟨g1, mis⟩, (hok e _).mpr fun two t1 t2 ts => ?_⟩, hw⟩⟩
        rw [hw] at ts
        by_cases hmt : Sb m two
        · exact hL (Sb.antisymm ts hmt ▸ t1)
        · obtain ⟨f, hf1, hf2⟩ : ∃ f, m.testBit f = true ∧ ¬ two.testBit f = true := Classical.byContradiction fun z => hmt fun f hf => Classical.byContradiction fun z2 => z ⟨f, hf, z2⟩
          obtain ⟨k, hk, hkp⟩ := hm.2 f hf1
          rcases List.mem_append.mp hk with hk | hk
          · obtain ⟨x, hx, hb⟩ := t1.1 k hk
            exact hf2 (hkp x hx (ts x hb) ▸ hb)
          · have : k = l := by simpa using hk
            subst this
            have hef := hkp e hel he
            exact hf2 (hef ▸ ((t2 e).mpr rfl).1)
theorem blk_kp : ∀ (r L : List T) (k : List Nat), Kp L k → (∀ l ∈ r, Asc l) → Kp (L ++ r) (r.foldl blkStep k)
  | [], L, k, h, _ => by simpa using h
  | a :: r, L, k, h, ha => by
    have := blk_kp r (L ++ [a]) (blkStep k a) (step_kp h (ha a List.mem_cons_self)) fun l hl => ha l (List.mem_cons_of_mem _ hl)
    rw [List.append_assoc] at this
    exact this
theorem blk_spec {L : List T} (ha : ∀ l ∈ L, Asc l) : Kp L (L.foldl blkStep [0]) := by
  have h0 : Kp [] [0] := ⟨by simp, fun m => by
    rw [List.mem_singleton]
    constructor
    · rintro rfl
      exact And.intro (fun l hl => absurd hl (by simp)) (fun e he => absurd he (by simp))
    · intro h
      apply Nat.eq_of_testBit_eq
      intro i
      cases hb : m.testBit i with
      | false => simp
      | true =>
        obtain ⟨l, hl, _⟩ := h.2 i hb
        cases hl⟩
  have := blk_kp L [] [0] h0 ha
  simpa using this
end KM
set_option autoImplicit false
/-! The blocker: two ways of making it agree; a set or its rest; the quiet sets. -/
namespace KM
theorem mem_blockerLots {L : List T} (ha : ∀ l ∈ L, Asc l) {s : T} : s ∈ blockerLots L ↔ Asc s ∧ MinM L (maskOf s) := by
  unfold blockerLots lotsOfMasks
  rw [srt_mem, List.mem_map]
  constructor
  · rintro ⟨m, hm, rfl⟩
    refine ⟨things_asc m, ?_⟩
    rw [mask_things]
    exact ((blk_spec ha).mem m).mp hm
  · rintro ⟨h1, h2⟩
    exact ⟨maskOf s, ((blk_spec ha).mem _).mpr h2, things_mask h1⟩
theorem blockerLots_lt {L : List T} (ha : ∀ l ∈ L, Asc l) : (blockerLots L).Pairwise (· < ·) := by
  refine srt_lt (List.pairwise_map.mpr ?_)
  refine (blk_spec ha).nd.imp ?_
  intro a b hne e
  apply hne
  rw [← mask_things a, ← mask_things b, e]
theorem tr_meets {L : List T} {s : T} (a : Asc s) : TrM L (maskOf s) ↔ meets L s = true := by
  rw [meets_iff]
  unfold TrM
  constructor
  · intro h l hl
    obtain ⟨x, h1, h2⟩ := h l hl
    exact ⟨x, h1, (mask_bit_iff a).mp h2⟩
  · intro h l hl
    obtain ⟨x, h1, h2⟩ := h l hl
    exact ⟨x, h1, (mask_bit_iff a).mpr h2⟩
theorem min_blk {L : List T} {s : T} (a : Asc s) : MinM L (maskOf s) ↔ isBlk L s = true := by
  unfold isBlk MinM
  rw [Bool.and_eq_true, tr_meets a]
  refine and_congr Iff.rfl ?_
  unfold spare
  rw [beq_iff_eq, List.length_eq_zero_iff, List.filter_eq_nil_iff]
  constructor
  · intro h t ht hm
    obtain ⟨l, hl, hp⟩ := h t ((mask_bit_iff a).mpr ht)
    obtain ⟨x, hx, hx2⟩ := meets_iff.mp hm l hl
    obtain ⟨h1, h2⟩ := List.mem_filter.mp hx2
    have := hp x hx ((mask_bit_iff a).mpr h1)
    simp [this] at h2
  · intro h e he
    have he' := (mask_bit_iff a).mp he
    refine Classical.byContradiction fun z => h e he' (meets_iff.mpr fun l hl => ?_)
    obtain ⟨x, hx, hb, hne⟩ : ∃ x ∈ l, (maskOf s).testBit x = true ∧ x ≠ e := by
      refine Classical.byContradiction fun z2 => ?_
      exact z ⟨l, hl, fun x hx hb => Classical.byContradiction fun z3 => z2 ⟨x, hx, hb, z3⟩⟩
    exact ⟨x, hx, List.mem_filter.mpr ⟨(mask_bit_iff a).mp hb, by simpa using hne⟩⟩
theorem min_lt {L : List T} {n m : Nat} (hl : ∀ l ∈ L, ∀ x ∈ l, x < n) (h : MinM L m) {e : Nat} (he : m.testBit e = true) : e < n := by
  obtain ⟨l, h1, hp⟩ := h.2 e he
  obtain ⟨x, hx, hb⟩ := h.1 l h1
  rw [← hp x hx hb]
  exact hl l h1 x hx
theorem blocker_eq {L : List T} {n : Nat} (ha : ∀ l ∈ L, Asc l) (hl : ∀ l ∈ L, ∀ x ∈ l, x < n) : blocker n L = blockerLots L := by
  refine ltT_ext (srt_lt ((subsets_nodup n).sublist List.filter_sublist)) (blockerLots_lt ha) fun s => ?_
  unfold blocker
  rw [srt_mem, List.mem_filter, subsets_mem, mem_blockerLots ha]
  constructor
  · rintro ⟨⟨h1, _⟩, h3⟩
    exact ⟨h1, (min_blk h1).mpr h3⟩
  · rintro ⟨h1, h2⟩
    exact ⟨⟨h1, fun x hx => min_lt hl h2 ((mask_bit_iff h1).mpr hx)⟩, (min_blk h1).mp h2⟩
theorem blocker_gf {L : List T} {n : Nat} (g : GF n L) : GF n (blockerLots L) := by
  have ha := g.g.asc
  have mem := fun s => mem_blockerLots (L := L) ha (s := s)
  refine ⟨g.n1, fun z => ?_, ⟨fun l h => ((mem l).mp h).1, blockerLots_lt ha, fun l h m h' s => ?_⟩, fun l h z => ?_, fun l h x hx => ?_⟩
  · have ht : TrM L (maskOf (List.range n)) := fun l hl => by
      obtain ⟨x, hx⟩ := List.exists_mem_of_ne_nil _ (g.lne l hl)
      exact ⟨x, hx, (mask_bit_iff (range_asc n)).mpr (List.mem_range.mpr (g.lt l hl x hx))⟩
    obtain ⟨k, hk, _⟩ := min_in _ ht
    have : thingsOf k ∈ blockerLots L := (mem _).mpr ⟨things_asc k, by rw [mask_things]; exact hk⟩
    rw [z] at this
    cases this
  · have a := ((mem l).mp h)
    have b := ((mem m).mp h')
    exact mask_inj a.1 b.1 (MinM.eq a.2.1 b.2 fun i hi => (mask_bit_iff b.1).mpr (s i ((mask_bit_iff a.1).mp hi)))
  · obtain ⟨k, hk⟩ := List.exists_mem_of_ne_nil _ g.ne
    obtain ⟨x, _, hb⟩ := ((mem l).mp h).2.1 k hk
    rw [z] at hb
    simp [maskOf] at hb
  · exact min_lt g.lt ((mem l).mp h).2 ((mask_bit_iff ((mem l).mp h).1).mpr hx)
/-! a set or its rest -/
theorem set_or_rest {L : List T} {n : Nat} (g : GF n L) {s : T} (hs : ∀ x ∈ s, x < n) : holds (blockerLots L) (rest n s) = !holds L s := by
  have ha := g.g.asc
  rw [Bool.eq_iff_iff, holds_iff, Bool.not_eq_true', ← Bool.not_eq_true, holds_iff]
  constructor
  · rintro ⟨b, hb, h1⟩ ⟨l, hl, h2⟩
    obtain ⟨hb1, hb2⟩ := (mem_blockerLots ha).mp hb
    obtain ⟨x, hx, hbit⟩ := hb2.1 l hl
    exact (mem_rest.mp (h1 x ((mask_bit_iff hb1).mp hbit))).2 (h2 x hx)
  · intro h
    have ht : TrM L (maskOf (rest n s)) := fun l hl => by
      obtain ⟨x, hx, hns⟩ : ∃ x ∈ l, x ∉ s := Classical.byContradiction fun z => h ⟨l, hl, fun x hx => Classical.byContradiction fun z2 => z ⟨x, hx, z2⟩⟩
      exact ⟨x, hx, (mask_bit_iff (rest_asc n s)).mpr (mem_rest.mpr ⟨g.lt l hl x hx, hns⟩)⟩
    obtain ⟨k, hk, hsub⟩ := min_in _ ht
    refine ⟨thingsOf k, (mem_blockerLots ha).mpr ⟨things_asc k, by rw [mask_things]; exact hk⟩, fun x hx => ?_⟩
    exact (mask_bit_iff (rest_asc n s)).mp (hsub x (mem_things.mp hx))
/-! the quiet sets -/
def quiet (n : Nat) (L : List T) : List T := srt ((blockerLots L).map (rest n))
theorem mem_quiet {L : List T} {n : Nat} {s : T} : s ∈ quiet n L ↔ ∃ b ∈ blockerLots L, rest n b = s := by
  unfold quiet
  rw [srt_mem, List.mem_map]
theorem quiet_within {L : List T} {n : Nat} (g : GF n L) {s : T} (hs : ∀ x ∈ s, x < n) : within s (quiet n L) = !holds L s := by
  rw [← set_or_rest g hs, Bool.eq_iff_iff, within_iff, holds_iff]
  constructor
  · rintro ⟨o, ho, h1⟩
    obtain ⟨b, hb, rfl⟩ := mem_quiet.mp ho
    exact ⟨b, hb, fun x hx => mem_rest.mpr ⟨(blocker_gf g).lt b hb x hx, fun hxs => (mem_rest.mp (h1 x hxs)).2 hx⟩⟩
  · rintro ⟨b, hb, h1⟩
    exact ⟨rest n b, mem_quiet.mpr ⟨b, hb, rfl⟩, fun x hx => mem_rest.mpr ⟨hs x hx, fun hxb => (mem_rest.mp (h1 x hxb)).2 hx⟩⟩
theorem quiet_ne {L : List T} {n : Nat} (g : GF n L) : ∀ s ∈ quiet n L, True := fun _ _ => trivial
/-! what the program asks: masks -/
theorem mask_holds {L : List T} (ha : ∀ l ∈ L, Asc l) {f : T} (nd : f.Nodup) : (L.any fun l => maskOf l &&& maskOf (sortN f) == maskOf l) = holds L f := by
  unfold holds
  rw [Bool.eq_iff_iff, List.any_eq_true, List.any_eq_true]
  refine exists_congr fun l => and_congr_right fun hl => ?_
  rw [beq_iff_eq, and_left_iff, inside_iff]
  constructor
  · intro h x hx
    exact sortN_mem.mp ((mask_bit_iff (sortN_nd nd)).mp (h x ((mask_bit_iff (ha l hl)).mpr hx)))
  · intro h i hi
    exact (mask_bit_iff (sortN_nd nd)).mpr (sortN_mem.mpr (h i ((mask_bit_iff (ha l hl)).mp hi)))
theorem holds_congr {L : List T} {f g : T} (h : ∀ x, x ∈ f ↔ x ∈ g) : holds L f = holds L g := by
  rw [Bool.eq_iff_iff, holds_iff, holds_iff]
  simp only [h]
/-! sizes -/
theorem nodup_len {k : List Nat} {b : Nat} (nd : k.Nodup) (h : ∀ m ∈ k, m < b) : k.length ≤ b := by
  have e : sortN k = (List.range b).filter (fun x => decide (x ∈ k)) := asc_ext (sortN_nd nd) ((range_asc b).filter _) fun x => by
    rw [sortN_mem, List.mem_filter, List.mem_range, decide_eq_true_iff]
    exact ⟨fun hx => ⟨h x hx, hx⟩, fun hx => hx.2⟩
  have h1 := List.length_filter_le (fun x => decide (x ∈ k)) (List.range b)
  rw [← e, List.length_range, (sortN_perm k).length_eq] at h1
  exact h1
theorem kept_len {L : List T} {n : Nat} (ha : ∀ l ∈ L, Asc l) (hl : ∀ l ∈ L, ∀ x ∈ l, x < n) (i : Nat) : ((L.take i).foldl blkStep [0]).length ≤ 2 ^ n := by
  have hs : ∀ l ∈ L.take i, l ∈ L := fun l h => (List.take_sublist i L).subset h
  have kp := blk_spec (L := L.take i) fun l h => ha l (hs l h)
  refine nodup_len kp.nd fun m hm => ?_
  refine Nat.lt_pow_two_of_testBit m fun j hj => ?_
  cases hb : m.testBit j with
  | false => rfl
  | true =>
    have := min_lt (n := n) (fun l h => hl l (hs l h)) ((kp.mem m).mp hm) hb
    omega
theorem blockerLots_len (L : List T) : (blockerLots L).length = (L.foldl blkStep [0]).length := by
  unfold blockerLots lotsOfMasks
  rw [srt_len, List.length_map]
theorem gf_len {L : List T} {n : Nat} (g : GF n L) : L.length ≤ 2 ^ n := by
  have h : (L.map maskOf).length ≤ 2 ^ n := nodup_len (List.pairwise_map.mpr ((List.Pairwise.and_mem.mp (nodup_of_lt g.g.lt)).imp fun {a b} h e => h.2.2 (mask_inj (g.g.asc a h.1) (g.g.asc b h.2.1) e))) fun m hm => by
    obtain ⟨l, hl, rfl⟩ := List.mem_map.mp hm
    refine Nat.lt_pow_two_of_testBit _ fun j hj => ?_
    rw [mask_bit (g.g.asc l hl), decide_eq_false_iff_not]
    intro h
    have := g.lt l hl j h
    omega
  rwa [List.length_map] at h
end KM
set_option autoImplicit false
/-! The written families. -/
namespace KM
theorem gf_srt {n : Nat} {X : List T} (n1 : 1 ≤ n) (ne : X ≠ []) (nd : X.Nodup) (ha : ∀ l ∈ X, Asc l) (hn : ∀ l ∈ X, l ≠ []) (hl : ∀ l ∈ X, ∀ x ∈ l, x < n) (an : ∀ l ∈ X, ∀ m ∈ X, (∀ x ∈ l, x ∈ m) → l = m) : GF n (srt X) := by
  refine ⟨n1, fun z => ?_, ⟨fun l h => ha l (srt_mem.mp h), srt_lt nd, fun l h m h' => an l (srt_mem.mp h) m (srt_mem.mp h')⟩, fun l h => hn l (srt_mem.mp h), fun l h => hl l (srt_mem.mp h)⟩
  have := srt_len X
  rw [z] at this
  exact ne (List.length_eq_zero_iff.mp this.symm)
theorem fan4 : GF 4 (fanL 4) := gf_srt (by decide) (by decide) (by decide) (by decide) (by decide) (by decide) (by decide)
theorem fan5 : GF 5 (fanL 5) := gf_srt (by decide) (by decide) (by decide) (by decide) (by decide) (by decide) (by decide +kernel)
theorem ring5 : GF 5 (ringL 5) := gf_srt (by decide) (by decide) (by decide) (by decide) (by decide) (by decide) (by decide)
theorem ring6 : GF 6 (ringL 6) := gf_srt (by decide) (by decide) (by decide) (by decide) (by decide) (by decide) (by decide +kernel)
theorem four : GF 4 (srt [[0, 1], [0, 2], [0, 3], [1, 2]]) := gf_srt (by decide) (by decide) (by decide) (by decide) (by decide) (by decide) (by decide)
theorem one1 {n : Nat} (h : 1 ≤ n) : GF n [[0]] := by
  have : GF 1 [[0]] := ⟨by decide, by decide, ⟨by decide, by decide, by decide⟩, by decide, by decide⟩
  exact this.up h
theorem sized42 : (sized 4 2).length = 6 := by
  unfold sized
  rw [srt_len]
  decide +kernel
theorem sized52 : (sized 5 2).length = 10 := by
  unfold sized
  rw [srt_len]
  decide +kernel
theorem sized53 : (sized 5 3).length = 10 := by
  unfold sized
  rw [srt_len]
  decide +kernel
theorem ring_gf : ∀ n, 8 ≤ n → n ≤ 12 → GF n (ringL n) := by
  intro n h1 h2
  have h : n = 8 ∨ n = 9 ∨ n = 10 ∨ n = 11 ∨ n = 12 := by omega
  rcases h with rfl | rfl | rfl | rfl | rfl <;> exact gf_srt (by decide) (by decide) (by decide +kernel) (by decide +kernel) (by decide +kernel) (by decide +kernel) (by decide +kernel)
end KM
set_option Elab.async false
set_option linter.all false
set_option autoImplicit false
set_option maxRecDepth 100000
set_option maxHeartbeats 2000000
/-! As EX1, with a text in the field word. -/
namespace Y
open PySem PySem.W PySem.Calls PyProof.Rows Builtin.ObjectAttr
/-- the body of such an __init__ -/
def exsBody (txt : Str) (j : Nat) (p0 p1 p2 p3 p4 p5 p6 p7 p8 p9 p10 p11 p12 : Pos) : List Stmt :=
  [.Expr (.Call (.Attribute (.Call (.Name "super" p0) [] [] p1) "__init__" p2) [.JoinedStr [.Constant (.str txt) j p3, .FormattedValue (.Name "word" p4) (-1) none p5] p6] [] p7) p8,
   .Assign [.Attribute (.Name "self" p9) "word" p10] (.Name "word" p11) p12]
def exsScope : Scope := { kind := .function, names := [("self", .local), ("word", .local), ("__class__", .free), ("super", .globalImplicit)], isGenerator := false, isCoroutine := false, more := [] }
/-- the class at C, its __init__ at f -/
structure ExcS (K : Frag) (P : Program) (C f : Addr) (txt : Str) : Prop where
  ini : findIn K (.ref C) "__init__" = some (some (.ref f))
  own : excInitIn K C excB "Exception.__new__" = true
  ovr : excOver K C excB = true
  fn : isFn K (.ref f) = true
  def_ : ∃ (oc : Value) (od : Option Addr) (qual : Str) (par : Arguments) (dV kV doc pm ct : Value) (an : Option Addr) (cda cc : Addr) (osl : Array (Option Value)) (j : Nat) (p0 p1 p2 p3 p4 p5 p6 p7 p8 p9 p10 p11 p12 : Pos) (ar : Arg),
    K.lookup f = some ⟨oc, od, .func (ksFn "__init__" qual par (exsBody txt j p0 p1 p2 p3 p4 p5 p6 p7 p8 p9 p10 p11 p12) exsScope dV kV doc pm an (.ref cda) ct cc), osl⟩ ∧ codeIn K (.ref cda) qual = true ∧
      (∀ u v : Value, bindArgs (ksFn "__init__" qual par (exsBody txt j p0 p1 p2 p3 p4 p5 p6 p7 p8 p9 p10 p11 p12) exsScope dV kV doc pm an (.ref cda) ct cc) ⟨[u, v], []⟩ = (pure [(("self" : Str), u), (("word" : Str), v)] : Sem (List (Str × Value)))) ∧
      (par.posonlyargs ++ par.args).head? = some ar ∧ ar.arg = "self" ∧
      (∃ ccl cdd vs ccs file tf, K.lookup cda = some ⟨ccl, cdd, .fields vs, ccs⟩ ∧ vs[2]? = some (.str file tf) ∧ ((P.main.file : Str) == file) = true) ∧
      (∀ L : Addr, ∃ pl : Sem Bool, eval (.Call (.Attribute (.Call (.Name "super" p0) [] [] p1) "__init__" p2) [.JoinedStr [.Constant (.str txt) j p3, .FormattedValue (.Name "word" p4) (-1) none p5] p6] [] p7) (ksEnv qual exsScope L f (.ref cda) cc) = (do
      let ov ← attributeBase (.Call (.Name "super" p0) [] [] p1) "__init__" (ksEnv qual exsScope L f (.ref cda) cc) (eval (.Call (.Name "super" p0) [] [] p1) (ksEnv qual exsScope L f (.ref cda) cc))
      standAt p2.atName
      let (fm, first) ← holding [ov] (getMethod ov "__init__" pl)
      callWith p7 fm first (backTo p7 (starEach [.JoinedStr [.Constant (.str txt) j p3, .FormattedValue (.Name "word" p4) (-1) none p5] p6] (ksEnv qual exsScope L f (.ref cda) cc))) [])) ∧
      ∃ cl cld csl, K.lookup cc = some ⟨cl, cld, .cell (some (.ref C)), csl⟩
  sup : ks_superIn K C C "__init__" = some (some (.builtin "Exception.__init__"))
  opq : nsIn K cStatics "thirdparty.any" = some none
  sub : subIn K (.ref C) (.type "Exception") = some true
  slf : mroIn K C (.ref C) = some true
  sa : findIn K (.ref C) "__setattr__" = some (some (.builtin "object.__setattr__"))
  tk : takerIn K C "word" = some none
  hd : hasDictIn K C = true
  exC : subIn K (.ref C) (.type "BaseException") = some true
  tyC : typeIn K (.ref C) = some (.type "type")
  kC : keepIn K (.ref C) = true
  top : (P.main.scope.names.lookup ("super" : Str)).isSome = false
section
variable {P : Program} {w : World} {K : Frag} {C f : Addr} {txt : Str} {mg mb : Str → Option Value}
theorem exs_store {A : Around} {E : Value → Shared → Prop} {s : Shared} {x t : Addr} {v : Value} {Q : Unit → Shared → Prop} (c : ExcS K P C f txt) (X : K.In s.heap) (hx : s.heap.get? x = some (excObj C t none .none))
    (q : ∀ dx h' tk, (∀ b o, b ≠ x → s.heap.get? b = some o → h'.get? b = some o) → s.heap.objs.size ≤ dx → h'.get? x = some (excObj C t (some dx) .none) → h'.Ns1 dx (fun y => if y = "word" then some v else none) → Q () { s with heap := h', toks := tk }) :
    wpAny (model P w) A (setAttr (.ref x) "word" v) Q E s := by
  have I : InstAt s.heap x (excObj C t none .none) C none := ⟨hx, rfl, rfl, trivial⟩
  obtain ⟨cd, hcd, hdd⟩ := any_some c.hd
  have xs : x ≠ s.heap.objs.size := Nat.ne_of_lt (Heap.lt_size hx)
  obtain ⟨h, g, d, tk0, os⟩ := s
  refine set_plain X I c.sa (osa_openX (od := none) PySem.F.store_Exception X I c.ovr c.tk fun b => ?_)
  refine wpAny_bind (wpAny_pure (wpAny_bind (instanceDict_exc hx (looks_clsIn X hcd) hdd ?_)))
  show wpAny _ _ (storeInDict h.objs.size _ _ v) _ _ _
  have hx1 : (h.push (dictOf [] 0)).get? x = some (excObj C t none .none) := Heap.get?_push_of_some _ hx
  refine PySem.HandSPX.store_in_new ⟨_, #[], _, (Heap.get?_update_ne _ _ _ _ xs.symm).trans (Heap.get?_push_at rfl rfl), rfl, (fun e he => absurd he (by simp)), fun _ => rfl⟩ fun h' tk' hn hs => ?_
  refine q h.objs.size h' tk' (fun b o hb ho => ?_) (Nat.le_refl _) ?_ hn
  · exact (hs.2 b (Nat.ne_of_lt (Heap.lt_size ho))).trans ((Heap.get?_update_ne _ _ _ _ hb).trans (Heap.get?_push_of_some _ ho))
  · exact (hs.2 x xs).trans (Heap.get?_update_self _ hx1 rfl)
theorem exs_body {A : Around} {E : Value → Shared → Prop} {s : Shared} {R : Flow → Shared → Prop} {G : Heap} {m : Str → Option Value} {L x t : Addr} {n : Str} {tn : Tok} {rest : List Value} {oc cl ccl : Value} {od cld cdd : Option Addr} {qual file : Str} {par : Arguments} {dV kV doc pm ct : Value} {an : Option Addr}
    {cda cc : Addr} {osl csl ccs : Array (Option Value)} {vs : Array Value} {tf : Tok} {j : Nat} {p0 p1 p2 p3 p4 p5 p6 p7 p8 p9 p10 p11 p12 : Pos} {ar : Arg} (c : ExcS K P C f txt)
    (F : Fr G L s.heap m) (X : K.In G) (N : News G L s.heap [(x, excObj C t none .none), (t, excTup rest)]) (xt : x ≠ t) (gg : G.Ns mainGlobals mg) (gs : mg "super" = none) (gb : G.Ns builtinsNs mb) (bs : mb "super" = some (.type "super"))
    (hf : K.lookup f = some ⟨oc, od, .func (ksFn "__init__" qual par (exsBody txt j p0 p1 p2 p3 p4 p5 p6 p7 p8 p9 p10 p11 p12) exsScope dV kV doc pm an (.ref cda) ct cc), osl⟩)
    (hp : (par.posonlyargs ++ par.args).head? = some ar) (har : ar.arg = "self") (hcd : K.lookup cda = some ⟨ccl, cdd, .fields vs, ccs⟩) (hvs : vs[2]? = some (.str file tf)) (hfile : ((P.main.file : Str) == file) = true)
    (hcc : K.lookup cc = some ⟨cl, cld, .cell (some (.ref C)), csl⟩) {pl : Sem Bool} (hcall : eval (.Call (.Attribute (.Call (.Name "super" p0) [] [] p1) "__init__" p2) [.JoinedStr [.Constant (.str txt) j p3, .FormattedValue (.Name "word" p4) (-1) none p5] p6] [] p7) (ksEnv qual exsScope L f (.ref cda) cc) = (do
      let ov ← attributeBase (.Call (.Name "super" p0) [] [] p1) "__init__" (ksEnv qual exsScope L f (.ref cda) cc) (eval (.Call (.Name "super" p0) [] [] p1) (ksEnv qual exsScope L f (.ref cda) cc))
      standAt p2.atName
      let (fm, first) ← holding [ov] (getMethod ov "__init__" pl)
      callWith p7 fm first (backTo p7 (starEach [.JoinedStr [.Constant (.str txt) j p3, .FormattedValue (.Name "word" p4) (-1) none p5] p6] (ksEnv qual exsScope L f (.ref cda) cc))) [])) (hm1 : m "self" = some (.ref x)) (hm2 : m "word" = some (.str n tn)) (ht : (Str.empty ++ txt ++ (n)).length ≤ sizeLine) (ht1 : (Str.empty ++ txt).length ≤ sizeLine)
    (q : ∀ h' t' dx tk, (∀ b o, G.get? b = some o → h'.get? b = some o) → h'.get? x = some (excObj C t' (some dx) .none) → h'.Ns1 dx (fun y => if y = "word" then some (.str n tn) else none) → G.objs.size ≤ dx → dx ≠ x → R .next { s with heap := h', toks := tk }) :
    PySem.wpAt (model P w) A (.func (exsBody txt j p0 p1 p2 p3 p4 p5 p6 p7 p8 p9 p10 p11 p12) (ksEnv qual exsScope L f (.ref cda) cc)) (execs (exsBody txt j p0 p1 p2 p3 p4 p5 p6 p7 p8 p9 p10 p11 p12) (ksEnv qual exsScope L f (.ref cda) cc)) R E s := by
  have XS : K.In s.heap := X.keeps F.keep
  have hnl : n.length ≤ sizeLine := by
    have := ht
    rw [PySem.Str.length_append] at this
    omega
  have I : InstAt s.heap x (excObj C t none .none) C none := ⟨(N (x, excObj C t none .none) (by simp)).1, rfl, rfl, trivial⟩
  obtain ⟨cd, hcdC, -⟩ := any_some c.hd
  refine ks_wpAt_execs_cons (ks_wpAt_Expr_any (ks_wpAt_MethodCall (pl := pl) ?_ hcall))
  obtain ⟨h, g, d, tk0, os⟩ := s
  obtain ⟨oD, hD1, hD2⟩ : ∃ oD, h.get? C = some oD ∧ oD.data = .cls cd := by
    unfold clsIn at hcdC
    split at hcdC
    · rename_i z1 z2 z3 z4 ho
      cases hcdC
      exact ⟨_, XS _ _ ho, rfl⟩
    · cases hcdC
  refine ks_wpAt_super_base (env := ksEnv qual exsScope L f (.ref cda) cc) rfl rfl (by decide) rfl (XS _ _ hf) rfl hp rfl (XS _ _ hcd) rfl hvs hfile c.top ?_
  refine ks_loadName_global rfl rfl (loadGlobal_builtin (env := ksEnv qual exsScope L f (.ref cda) cc) (gg.keeps F.keep) gs (gb.keeps F.keep) bs ⟨rfl, ?_⟩)
  refine wpAny_loadName_free rfl rfl rfl ⟨_, XS _ _ hcc, rfl⟩ ?_
  rw [har]
  refine wpAny_loadName_local rfl rfl F.ns hm1 ?_
  refine ks_wpAny_isType_cls hD1 hD2 ⟨rfl, ?_⟩
  refine ks_wpAny_call_super hD1 hD2 I.at_ I.cls (fun c' e => ?_) (looks_mroIn XS c.slf) (fun h1 e1 k1 => ?_)
  · cases e
  obtain ⟨F1, N1, l1⟩ := ks_newsPush (s := ⟨h, g, d, tk0, os⟩) F N rfl e1 k1
  have I1 : InstAt h1 x (excObj C t none .none) C none := ⟨(N1 (x, excObj C t none .none) (by simp)).1, rfl, rfl, trivial⟩
  refine kxs_method kxs_Exception (s := ⟨h1, g, d, tk0, os⟩) F1 X N1 (so := h.objs.size) (D := C) (by simp) I1 c.opq c.sup c.sub (by decide) fun q1 h2 F2 N2 l2 => ?_
  refine kxs_callWith1 (i := "Exception.__init__") (x := x) N2 (by simp) (spliced_more (env := ksEnv qual exsScope L f (.ref cda) cc) ?_)
  refine wpAny_JoinedStr ?_
  show Joins _ _ _ [eval _ _, eval _ _] _ _ _
  refine Constant_str ⟨txt, _, rfl, ht1, ?_⟩
  refine wpAny_FormattedValue_plain (wpAny_Name (wpAny_loadName_local rfl rfl F2.ns hm2 (wpAny_formatField_str (hx := hnl) ⟨_, _, rfl, ht, ?_⟩ ⟨_, _, rfl, ht, ?_⟩)))
  all_goals (
    refine ⟨ht, ?_⟩
    have xq : x < q1 := l2 (x, excObj C t none .none) (by simp)
    have xs : x < h.objs.size := l1 (x, excObj C t none .none) (by simp)
    refine spliced_none ⟨kxs_at N2 (by simp), ?_⟩
    refine kxs_call (x := x) F2 X N2 PySem.F.excBase_Exception c.own (by simp) (.tail (Nat.ne_of_gt xq) (.tail (Nat.ne_of_gt xs) (.head fun p hp => by
      have : p = (t, excTup rest) := by simpa using hp
      rw [this]
      exact fun z => xt z.symm))) (by simp [sizeLine_eq]) fun t3 h3 F3 N3 l3 => ?_
    have hx3 : h3.get? x = some (excObj C t3 none .none) := (N3 (x, excObj C t3 none .none) (by simp)).1
    refine ks_wpAt_execs_cons (ks_wpAt_Assign_Attr (wpAt_of_wpAny (wpAny_Name (wpAny_loadName_local rfl rfl F3.ns hm2 (wpAny_Name (wpAny_loadName_local rfl rfl F3.ns hm1 ?_))))))
    refine exs_store c (X.keeps F3.keep) hx3 fun dx h4 tk k4 hdx hx4 hn4 => ?_
    refine wpAt_of_wpAny (wpAny_execs_nil ?_)
    have gx : G.get? x = none := (N (x, excObj C t none .none) (by simp)).2.2
    have d3 : h3.get? dx = none := by
      cases z : h3.get? dx with
      | none => rfl
      | some o => exact absurd (Nat.lt_of_lt_of_le (Heap.lt_size z) hdx) (Nat.lt_irrefl _)
    refine q h4 t3 dx tk (fun b o e => k4 b o (fun z => by rw [z, gx] at e; cases e) (F3.keep b o e)) hx4 hn4 ?_ (fun z => by rw [z, hx3] at d3; cases d3)
    obtain ⟨oL, _, _, hoL, _⟩ := F3.ns
    exact Nat.le_trans F3.above (Nat.le_trans (Nat.le_of_lt (Heap.lt_size hoL)) hdx))
/-- C(word) -/
theorem exs_call {A : Around} {E : Value → Shared → Prop} {s : Shared} {n : Str} {tn : Tok} {Q : Value → Shared → Prop} (c : ExcS K P C f txt) (X : K.In s.heap) (lim : s.heap.NoLimit) (gg : s.heap.Ns mainGlobals mg) (gs : mg "super" = none) (gb : s.heap.Ns builtinsNs mb)
    (bs : mb "super" = some (.type "super")) (hr : (A.under (.builtin "type.__call__" ⟨[.ref C, .str n tn], []⟩)).depth < recursionLimit) (ht : (Str.empty ++ txt ++ (n)).length ≤ sizeLine) (ht1 : (Str.empty ++ txt).length ≤ sizeLine)
    (q : ∀ h' e t' dx tk, (∀ b o, s.heap.get? b = some o → h'.get? b = some o) → s.heap.objs.size ≤ e → h'.get? e = some (excObj C t' (some dx) .none) → h'.Ns1 dx (fun y => if y = "word" then some (.str n tn) else none) → s.heap.objs.size ≤ dx → dx ≠ e →
      Q (.ref e) { s with heap := h', toks := tk }) : wpAny (model P w) A (call (.ref C) [.str n tn]) Q E s := by
  obtain ⟨nm, N', qn, bs', bm, hdct, sn, sub, ab, col, dd, k0, k1, k2, k3, k5, hC, hT⟩ := excInit_of X c.own
  obtain ⟨oc, od, qual, par, dV, kV, doc, pm, ct, an, cda, cc, osl, j, p0, p1, p2, p3, p4, p5, p6, p7, p8, p9, p10, p11, p12, ar, hf, hcode, hbind, hp, har, ⟨ccl, cdd, vs, ccs, file, tf, hcd, hvs, hfile⟩, hcall, cl, cld, csl, hcc⟩ := c.def_
  have hi' : Looks (model P w) s.heap (typeLookup (.ref C) "__init__") (some (.ref f)) := looks_findIn X c.ini
  have hof := X _ _ hf
  have hcf : oc = .type "function" := by
    have := c.fn
    unfold isFn typeIn at this
    simp only [hf] at this
    simpa using this
  obtain ⟨h, g, d, tk0, os⟩ := s
  refine wpAny_call (PX.call_own PySem.F.excBase_Exception hT hC hi' (fun self => exc_bind hof hcf self) (by simp [sizeLine_eq]) ?_)
  have kk : ∀ b o, h.get? b = some o → ((h.push (excTup [.str n tn])).push (excObj C h.objs.size none .none)).get? b = some o := fun b o e => Heap.get?_push_of_some _ (Heap.get?_push_of_some _ e)
  refine ks_codeAny_call_defAt hr (kk _ _ hof) rfl (lim.keeps kk) (codeRec_of (X.keeps kk) hcode) rfl (.of_eq (hbind _ _)) (show ∀ y ∈ exsScope.names, y.2 ≠ .cell by decide) (fun y hy => by
    simp only [List.mem_cons, List.not_mem_nil, or_false] at hy
    rcases hy with rfl | rfl <;> rfl) fun h1 hns hk1 => ?_
  have sz : ((h.push (excTup [.str n tn])).push (excObj C h.objs.size none .none)).objs.size = h.objs.size + 2 := by rw [Heap.size_push, Heap.size_push]
  have none_of : ∀ {a : Addr}, h.objs.size ≤ a → h.get? a = none := fun {a} ha => by
    cases z : h.get? a with
    | none => rfl
    | some o => exact absurd (Nat.lt_of_lt_of_le (Heap.lt_size z) ha) (Nat.lt_irrefl _)
  have e1 : ((h.push (excTup [.str n tn])).push (excObj C h.objs.size none .none)).get? h.objs.size = some (excTup [.str n tn]) := by heap_get
  have e2 : ((h.push (excTup [.str n tn])).push (excObj C h.objs.size none .none)).get? (h.objs.size + 1) = some (excObj C h.objs.size none .none) := by heap_get
  refine exs_body (G := h) (x := h.objs.size + 1) (t := h.objs.size) (rest := [.str n tn]) c ⟨hns, fun b o e => hk1 b o (kk b o e), by rw [sz]; omega⟩ X (fun p hp => ?_) (Nat.succ_ne_self _) gg gs gb bs hf hp har hcd hvs hfile hcc (hcall _).choose_spec rfl rfl ht ht1 fun h' t' dx tk k he hd hdx hde => ?_
  · simp only [List.mem_cons, List.not_mem_nil, or_false] at hp
    rcases hp with rfl | rfl
    · exact ⟨hk1 _ _ e2, by rw [sz]; exact Nat.ne_of_lt (Nat.lt_succ_self _), none_of (Nat.le_succ _)⟩
    · exact ⟨hk1 _ _ e1, by rw [sz]; exact Nat.ne_of_lt (Nat.lt_of_lt_of_le (Nat.lt_succ_self _) (Nat.le_succ _)), none_of (Nat.le_refl _)⟩
  · exact ⟨rfl, q h' _ t' dx tk k (Nat.le_succ _) he hd hdx hde⟩
end
end Y
namespace Y
open PySem L2
section
variable {X : Cx} {C f : Addr} {txt : Str} {es : List Expr} {ta : TA} {e : Expr} {p pos : Pos} {k : Nat}
/-- C(e): an exception whose dict says word -/
def tExs (C : Addr) (ta : TA) : St → Hp → XK → Prop := fun σ H Q => ta σ H fun vs H1 => ∃ n : Str, vs = [.str n] ∧ n.length ≤ 100 ∧ ∀ d, H1 d = none → Q (.ref C) (some d) (upd H1 d (.xd [("word", .str n)]))
theorem text_fitS {n txt : Str} (hn : n.length ≤ 100) (ht : txt.length ≤ 100) : (Str.empty ++ txt ++ n).length ≤ sizeLine ∧ (Str.empty ++ txt).length ≤ sizeLine := by
  have e0 : Str.empty.length = 0 := rfl
  refine ⟨?_, ?_⟩
  · rw [PySem.Str.length_append, PySem.Str.length_append, sizeLine_eq]; omega
  · rw [PySem.Str.length_append, sizeLine_eq]; omega
theorem pmk_exs {x : Str} (c : ExcS X.K X.prog C f txt) (ht : txt.length ≤ 100) (hr : Room (k + 1) X.A) (hg : Gl X x) (hm : X.mg x = some (.ref C)) (gs : X.mg "super" = none) (ha : PA X (e :: es) ta)
    (hdb : (x == ("__debug__" : Str)) = false := by decide) (he : starEach (e :: es) X.env = (false, eval e X.env) :: starEach es X.env := by rfl) (hpl : (backTo pos (starEach es X.env)).any (·.1) = false := by rfl) :
    PMk X (.Call (.Name x p) (e :: es) [] pos) (tExs C ta) := by
  intro pins s σ H Q I h
  refine wpAny_Call_Name_kw (ld_glob I hg hm ?_ hdb)
  refine PySem.W.callWith_K (h₀ := X.base) I.ok.mod.kin c.kC (thn (ha.run pos pins s σ H _ I h) fun us s1 hh => ?_) he hpl
  obtain ⟨vs, H1, I1, r, n, rfl, hn, q⟩ := hh
  refine ⟨I1.kIn, ?_⟩
  obtain ⟨u, rfl, ru⟩ := r.one
  obtain ⟨tn, rfl⟩ := (show ∃ t, u = Value.str n t from ru)
  obtain ⟨t2, t3⟩ := text_fitS hn ht
  have kb : ∀ b o, X.base.get? b = some o → s1.heap.get? b = some o := fun b o z => (I1.env0.bs b o z).1
  obtain ⟨mb, hb1, hb2⟩ := I1.ok.mod.blt
  refine exs_call c I1.kIn (I1.ok.mod.nolimit.keeps kb) (I1.ok.mod.glob.keeps kb) gs (hb1.keeps kb) ((hb2 _ (by decide +kernel)).trans (by first | boot_by_name | rfl | kernel_rfl)) (hr.make C _ []).depth t2 t3 fun h' a t' dx tk kp ha' he' hd' hdx hda => ?_
  obtain ⟨G, g1, g2⟩ := restrict h' fun b => decide (b ≠ a)
  have gk : ∀ b, b ≠ a → G.get? b = h'.get? b := fun b hb => g1 b (decide_eq_true hb)
  have ge : G.get? a = none := g2 a (by simp)
  have kG : ∀ b o, s1.heap.get? b = some o → G.get? b = some o := fun b o z => by
    rw [gk b (Nat.ne_of_lt (Nat.lt_of_lt_of_le (Heap.lt_size z) ha'))]
    exact kp b o z
  have nd : H1 dx = none := I1.hok.fresh hdx
  have na : H1 a = none := I1.hok.fresh ha'
  have J : Inv X pins σ (upd H1 dx (.xd [("word", .str n)])) { s1 with heap := G, toks := tk } := by
    refine I1.laid kG hdx ⟨_, hd'.at fun o z => (gk dx hda).trans z, fun y => ?_⟩
    by_cases hy : y = "word"
    · subst hy
      simp only [if_pos rfl]
      rw [lookup_put, if_pos rfl]
      exact ⟨_, rfl⟩
    · rw [lookup_put, if_neg hy, if_neg hy]
      exact True.intro
  refine ⟨a, _, _, { s1 with heap := G, toks := tk }, _, .ref C, some dx, rfl, J, fun b o z => ?_, ge, he', ⟨rfl, rfl⟩, rfl, rfl, by rw [upd_ne hda.symm]; exact na, rfl, I1.bare, raises_own c.exC c.tyC, q dx nd⟩
  by_cases hb : b = a
  · subst hb
    have z' : G.get? b = some o := z
    rw [ge] at z'
    cases z'
  · exact (gk b hb).symm.trans z
end
end Y
set_option Elab.async false
set_option linter.all false
set_option autoImplicit false
set_option maxRecDepth 100000
set_option maxHeartbeats 1000000
/-! Defs that may raise C with one field, a number or a text. -/
namespace Y
open PySem L2
abbrev XF := Str × V
/-- the promise: from ds the datum d, or C with the field x is raised -/
def PureE (K : PySem.W.Frag) (pre : List D → D → Prop) (preE : List D → Addr → XF → Prop) : Sp := fun vs H Q E => ∃ ds, IsAll K H vs ds ∧ ((∃ d, pre ds d ∧ ∀ v H', Ex H H' → Is K H' v d → Q v H') ∨
  ∃ C x, preE ds C x ∧ ∀ d H', Ex H H' → H' d = some (.xd [x]) → E (.ref C) (some d) H')
/-- what is wanted of C with the field x here -/
def WF_ (K : PySem.W.Frag) (B : List Addr) (H0 : Hp) (Z : Hp → Prop) (E : List Slot) (W : L2.WX) (C : Addr) (x : XF) : Prop := ∀ σ H, Env K B H0 Z E σ H → ∀ d, H d = some (.xd [x]) → W (.ref C) (some d) σ H
section
variable {K : PySem.W.Frag} {B : List Addr} {H0 : Hp} {Z : Hp → Prop} {E : List Slot} {ta tb tc te : TE} {t : TT} {ea : TA} {y z d : D} {l m : List D} {b c : Bool} {De : Ends} {tx : TS} {x : XF} {C : Addr} {pre : List D → D → Prop} {preE : List D → Addr → XF → Prop}
theorem ep_callE {ex : XK} (h : EA K B H0 Z ea E l) (hp : pre l d) : EP K B H0 Z (tCall (PureE K pre preE) [] ex ea) E d := fun σ H e Q q =>
  h σ H e _ fun vs H1 e1 h1 => ⟨l, by rw [List.append_nil]; exact h1, .inl ⟨d, hp, fun v H2 e2 h2 => q v H2 (e1.trans e2) h2⟩⟩
theorem ep_callES {ex : L2.St → XK} (h : EA K B H0 Z ea E l) (hp : pre l d) : EP K B H0 Z (tCallS (PureE K pre preE) ex ea) E d := fun σ H e Q q =>
  h σ H e _ fun vs H1 e1 h1 => ⟨l, h1, .inl ⟨d, hp, fun v H2 e2 h2 => q v H2 (e1.trans e2) h2⟩⟩
theorem er_callE {W : L2.WX} (h : EA K B H0 Z ea E l) (hp : preE l C x) (hw : WF_ K B H0 Z E W C x) : ER K B H0 Z (tCallS (PureE K pre preE) (WE W) ea) E := fun σ H e Q =>
  h σ H e _ fun vs H1 e1 h1 => ⟨l, h1, .inr ⟨C, x, hp, fun dd H2 e2 h2 => hw σ H2 (e.ext (e1.trans e2)) dd h2⟩⟩
theorem sd_raiseF {W : L2.WX} {n : Int} (h : EA K B H0 Z ea E [.int n]) (hn : n.natAbs < 1000000) (hw : WF_ K B H0 Z E W C ("place", .int n)) : SD K B H0 Z (fun _ σ H => tExc C ea σ H fun cls d H' => W cls d σ H') De E := fun σ H e =>
  h σ H e _ fun vs H1 e1 h1 => by
    cases h1 with
    | cons a t =>
      cases a; cases t
      exact ⟨n, rfl, hn, fun d nd => hw σ _ (e.ext (e1.trans (Ex.new nd))) d upd_same⟩
theorem sd_raiseS {W : L2.WX} {n : Str} (h : EA K B H0 Z ea E [.str n]) (hn : n.length ≤ 100) (hw : WF_ K B H0 Z E W C ("word", .str n)) : SD K B H0 Z (fun _ σ H => tExs C ea σ H fun cls d H' => W cls d σ H') De E := fun σ H e =>
  h σ H e _ fun vs H1 e1 h1 => by
    cases h1 with
    | cons a t =>
      cases a; cases t
      exact ⟨n, rfl, hn, fun d nd => hw σ _ (e.ext (e1.trans (Ex.new nd))) d upd_same⟩
theorem wf_of {H : Hp} {W : XK} (h : ∀ d H', Ex H H' → H' d = some (.xd [x]) → W (.ref C) (some d) H') : WF_ K [] H Z E (fun cls d _ H' => W cls d H') C x := fun σ H' e d q =>
  h d H' (fun a o z => e.ex a o (by simp) z) q
end
section
variable {P : Program} {w : World} {K : PySem.W.Frag} {mg : Str → Option Value} {base : Heap}
theorem pureE_ok {x qual : Str} {st : Stmt} {f : Addr} {fd : FuncData} {N ps : List Str} {k : Nat} {pre : List D → D → Prop} {preE : List D → Addr → XF → Prop} (F : Fun K x qual st f fd) (S : FnScope N ps (defScope st)) (len : ∀ ds, ((∃ d, pre ds d) ∨ ∃ C n, preE ds C n) → ds.length = ps.length) (hN : ps.length ≤ N.length)
    (hb : ∀ (cdv : Value) (A : Around) (outer : List PySem.Env) (s : Shared) (H : Hp) (E : XK), Room k (A.deeper (PyProof.Rows.envOfC qual (defScope st) s.heap.objs.size f cdv)) →
      ∃ t, PSs (cxOf (L2.CX P w) P w K mg base N qual (defScope st) f cdv A outer s H E) (defBody st) t ∧ (∀ ds d, pre ds d → ∀ D : Ends, Ok K H D d → SD K [] H (fun _ => True) t D (entry N ds)) ∧
        ∀ ds C n, preE ds C n → ∀ D : Ends, (∀ d H', Ex H H' → H' d = some (.xd [n]) → E (.ref C) (some d) H') → SD K [] H (fun _ => True) t D (entry N ds)) :
    FnOk P w K mg base (L2.CX P w) (k + 1) f fd ps (PureE K pre preE) := by
  refine F.okX S (fun vs H Q E h => ?_) (fun cdv A outer s H vs Q E hr h => ?_)
  · obtain ⟨ds, h1, h2⟩ := h
    rw [h1.length]
    rcases h2 with ⟨d, h2, _⟩ | ⟨C, n, h2, _⟩
    · exact len ds (.inl ⟨d, h2⟩)
    · exact len ds (.inr ⟨C, n, h2⟩)
  · obtain ⟨t, ht, hs, hx⟩ := hb cdv A outer s H E hr
    refine ⟨t, ht, ?_⟩
    obtain ⟨ds, h1, h2⟩ := h
    rcases h2 with ⟨d, h2, h3⟩ | ⟨C, n, h2, h3⟩
    · refine hs ds d h2 _ ⟨fun v H' e i => h3 v H' (fun a o q => e a o (by simp) q) i, fun hd σ H' e => h3 .non H' e (hd ▸ .non)⟩ _ _ (env_entry h1 ?_)
      have := len ds (.inl ⟨d, h2⟩)
      omega
    · refine hx ds C n h2 _ (fun d H' e q => h3 d H' e q) _ _ (env_entry h1 ?_)
      have := len ds (.inr ⟨C, n, h2⟩)
      omega
end
end Y
set_option Elab.async false
set_option linter.all false
set_option autoImplicit false
set_option maxRecDepth 100000
set_option maxHeartbeats 1000000
/-! Star defs and instances called, what leaves them by the slots. -/
namespace Y
open PySem L2 PyProof.Rows
section
variable {X : Cx} {CX : CXT} {k : Nat} {f C g : Addr} {sp : Sp} {E : L2.St → XK} {x : Str} {e fe : Expr} {es : List Expr} {tf : TE} {t : TA} {p pos : Pos}
theorem run_fnRS {pins : List (Addr × Obj)} {σ : L2.St} {H : Hp} {s : Shared} {Q : VK} {us : List Value} {vs : List V} (F : FnR X.prog X.w X.K X.mg X.base CX k f sp) (hr : Room k X.A) (hx : PassesAt CX X σ (E σ)) (I : Inv X pins σ H s) (r : Vals vs us) (h : sp vs H Q (E σ)) :
    codeAny (model X.prog X.w) X.A (.call (.ref f) ⟨us, []⟩) (fun r s' => match r with | .ok (.ret v) => L2.EP X pins σ Q v s' | .ok _ => False | .error e => X.xe e s') s :=
  codeAny_mono (F X.A X.stack s H us vs Q (E σ) hr I.env0 r h) fun r s' hq => by
    cases r with
    | error e => exact hx pins H s e s' I hq
    | ok fl => cases fl <;> first | exact I.after hq | exact False.elim hq
/-- x(e, ..), x a def by its values -/
theorem pe_callRS (F : FnR X.prog X.w X.K X.mg X.base CX k f sp) (hr : Room k X.A) (hg : Gl X x) (hm : X.mg x = some (.ref f)) (hk : PySem.W.keepIn X.K (.ref f) = true) (hx : ∀ σ, PassesAt CX X σ (E σ)) (ha : PA X (e :: es) t)
    (hdb : (x == ("__debug__" : Str)) = false := by decide) (he : starEach (e :: es) X.env = (false, eval e X.env) :: starEach es X.env := by rfl) (hpl : (backTo pos (starEach es X.env)).any (·.1) = false := by rfl) :
    PE X (.Call (.Name x p) (e :: es) [] pos) (tCallS sp E t) :=
  ⟨fun pins s σ H Q I h => wpAny_Call_Name_kw (ld_glob I hg hm (PySem.W.callWith_K (h₀ := X.base) I.ok.mod.kin hk (thn (ha.run pos pins s σ H _ I h) fun us s1 ⟨vs, H1, I1, r, q⟩ => ⟨I1.kIn, wpAny_call (run_fnRS F hr (hx σ) I1 r q)⟩) he hpl) hdb)⟩
/-- x() -/
theorem pe_callRS0 (F : FnR X.prog X.w X.K X.mg X.base CX k f sp) (hr : Room k X.A) (hg : Gl X x) (hm : X.mg x = some (.ref f)) (hk : PySem.W.keepIn X.K (.ref f) = true) (hx : ∀ σ, PassesAt CX X σ (E σ))
    (hdb : (x == ("__debug__" : Str)) = false := by decide) : PE X (.Call (.Name x p) [] [] pos) (tCallS sp E tNil) :=
  ⟨fun pins s σ H Q I h => wpAny_Call_Name_kw (ld_glob I hg hm (PySem.W.callWith_K0 I.kIn hk (wpAny_call (run_fnRS (us := []) (vs := []) F hr (hx σ) I .nil h))) hdb)⟩
/-- f(e, ..), f an expression that gives an instance of C -/
def tCallOS (C : Addr) (sp : Sp) (E : L2.St → XK) (tf : TE) (t : TA) : TE := fun σ H Q => tf σ H fun y H1 => ∃ a, y = V.ref a ∧ t σ H1 fun vs H2 => (∃ dx fs, H2 a = some (.ins C dx fs)) ∧ sp (V.ref a :: vs) H2 Q (E σ)
theorem pe_callOS (hf : PE X fe tf) (c : StX.CallO X.K C g) (F : FnR X.prog X.w X.K X.mg X.base CX k g sp) (hr : Room k X.A) (hx : ∀ σ, PassesAt CX X σ (E σ)) (ha : PA X (e :: es) t)
    (ht : eval (.Call fe (e :: es) [] pos) X.env = (do callWith pos (← eval fe X.env) [] (backTo pos (starEach (e :: es) X.env)) (backToKw pos (keywordEach [] X.env))) := by rfl)
    (he : starEach (e :: es) X.env = (false, eval e X.env) :: starEach es X.env := by rfl) (hpl : (backTo pos (starEach es X.env)).any (·.1) = false := by rfl) : PE X (.Call fe (e :: es) [] pos) (tCallOS C sp E tf t) := by
  refine ⟨fun pins s σ H Q I h => Call_ (thn (hf.run pins s σ H _ I h) fun u s1 ⟨y, H1, I1, ry, a, ey, q⟩ => ?_) ht⟩
  subst ey
  obtain rfl : u = Value.ref a := ry
  refine StX.callO_with (thn (ha.run pos pins s1 σ H1 _ I1 q) fun us s2 ⟨vs, H2, I2, r, hi, q2⟩ => ?_) he hpl
  obtain ⟨ox, od, J, hd⟩ := StX.insC_at I2 (.inr hi)
  exact ⟨⟨C, ox, od, J, hd⟩, wpAny_call (PySem.W.kco_code I2.kIn J hd c.at_ c.fn c.fi (run_fnRS (us := .ref a :: us) (vs := .ref a :: vs) F hr (hx σ) I2 (.cons rfl r) q2))⟩
end
/-- defs with a star; the class' __call__ -/
structure ClR (P : Program) (w : World) (K : PySem.W.Frag) (mg : Str → Option Value) (base : Heap) (k : Nat) (x : Str) (sp : Sp) : Prop where
  ex : ∃ (f : Addr), FnR P w K mg base (L2.CX P w) k f sp ∧ mg x = some (.ref f) ∧ PySem.W.keepIn K (.ref f) = true
structure ClC (P : Program) (w : World) (K : PySem.W.Frag) (mg : Str → Option Value) (base : Heap) (k : Nat) (C : Addr) (sp : Sp) : Prop where
  ex : ∃ (g : Addr), FnR P w K mg base (L2.CX P w) k g sp ∧ StX.CallO K C g
section
variable {X : Cx} {k j : Nat} {C : Addr} {sp : Sp} {x : Str} {e fe : Expr} {es : List Expr} {tf : TE} {t : TA} {p pos : Pos} {W : L2.WX}
theorem pe_clR (c : ClR X.prog X.w X.K X.mg X.base k x sp) (hr : Room j X.A) (hk : k ≤ j) (hg : Gl X x) (tk : L2.Takes X W) (ha : PA X (e :: es) t)
    (hdb : (x == ("__debug__" : Str)) = false := by decide) (he : starEach (e :: es) X.env = (false, eval e X.env) :: starEach es X.env := by rfl) (hpl : (backTo pos (starEach es X.env)).any (·.1) = false := by rfl) :
    PE X (.Call (.Name x p) (e :: es) [] pos) (tCallS sp (WE W) t) := by
  obtain ⟨f, F, hm, kp⟩ := c.ex
  exact pe_callRS F (hr.mono hk) hg hm kp (passAt tk) ha hdb he hpl
theorem pe_clR0 (c : ClR X.prog X.w X.K X.mg X.base k x sp) (hr : Room j X.A) (hk : k ≤ j) (hg : Gl X x) (tk : L2.Takes X W) (hdb : (x == ("__debug__" : Str)) = false := by decide) : PE X (.Call (.Name x p) [] [] pos) (tCallS sp (WE W) tNil) := by
  obtain ⟨f, F, hm, kp⟩ := c.ex
  exact pe_callRS0 F (hr.mono hk) hg hm kp (passAt tk) hdb
theorem pe_clC (c : ClC X.prog X.w X.K X.mg X.base k C sp) (hr : Room j X.A) (hk : k ≤ j) (tk : L2.Takes X W) (hf : PE X fe tf) (ha : PA X (e :: es) t)
    (ht : eval (.Call fe (e :: es) [] pos) X.env = (do callWith pos (← eval fe X.env) [] (backTo pos (starEach (e :: es) X.env)) (backToKw pos (keywordEach [] X.env))) := by rfl)
    (he : starEach (e :: es) X.env = (false, eval e X.env) :: starEach es X.env := by rfl) (hpl : (backTo pos (starEach es X.env)).any (·.1) = false := by rfl) : PE X (.Call fe (e :: es) [] pos) (tCallOS C sp (WE W) tf t) := by
  obtain ⟨g, F, cc⟩ := c.ex
  exact pe_callOS hf cc F (hr.mono hk) (passAt tk) ha ht he hpl
end
section
variable {K : PySem.W.Frag} {B : List Addr} {H0 : Hp} {Z : Hp → Prop} {E : List Slot} {tf : TE} {ea : TA} {d : D} {l m : List D} {C : Addr} {ns : List Str} {pre : List D → D → Prop} {preE : List D → Addr → XF → Prop}
theorem ep_callO {W : L2.St → XK} (hf : EP K B H0 Z tf E (.ins C ns l)) (h : EA K B H0 Z ea E m) (hp : pre (.ins C ns l :: m) d) : EP K B H0 Z (tCallOS C (PureE K pre preE) W tf ea) E d := fun σ H e Q q =>
  hf σ H e _ fun v H1 e1 h1 => by
    obtain ⟨a, dx, fs, rfl, ha, hn, hl⟩ := h1.ins_inv
    exact ⟨a, rfl, h σ H1 (e.ext e1) _ fun vs H2 e2 h2 => ⟨⟨dx, fs, e2 _ _ ha⟩, _, .cons (h1.mono e2) h2, .inl ⟨d, hp, fun v H3 e3 h3 => q v H3 ((e1.trans e2).trans e3) h3⟩⟩⟩
theorem er_callO {W : L2.WX} {C' : Addr} {x : XF} (hf : EP K B H0 Z tf E (.ins C ns l)) (h : EA K B H0 Z ea E m) (hp : preE (.ins C ns l :: m) C' x) (hw : WF_ K B H0 Z E W C' x) : ER K B H0 Z (tCallOS C (PureE K pre preE) (WE W) tf ea) E := fun σ H e Q =>
  hf σ H e _ fun v H1 e1 h1 => by
    obtain ⟨a, dx, fs, rfl, ha, hn, hl⟩ := h1.ins_inv
    exact ⟨a, rfl, h σ H1 (e.ext e1) _ fun vs H2 e2 h2 => ⟨⟨dx, fs, e2 _ _ ha⟩, _, .cons (h1.mono e2) h2, .inr ⟨C', x, hp, fun dd H3 e3 h3 => hw σ H3 (e.ext ((e1.trans e2).trans e3)) dd h3⟩⟩⟩
end
/-! a def f(*xs) -/
theorem bind_star0 {B : List Value → Sem (List (Str × Value))} {pv : Str} (h0 : B [] = (newTuple [] >>= fun t => pure [(pv, t)])) (h1 : ∀ r rs, B (r :: rs) = (newTuple (r :: rs) >>= fun t => pure [(pv, t)])) :
    ∀ us rest : List Value, us.length = ([] : List Str).length → B (us ++ rest) = (newTuple rest >>= fun t => pure (([] : List Str).zip us ++ [(pv, t)]))
  | [], [], _ => h0
  | [], r :: rs, _ => h1 r rs
section
variable {P : Program} {w : World} {K : PySem.W.Frag} {mg : Str → Option Value} {base : Heap}
theorem starE_ok {x qual pv : Str} {st : Stmt} {f : Addr} {fd : FuncData} {N : List Str} {k : Nat} {pre : List D → D → Prop} {preE : List D → Addr → XF → Prop} (F : Fun K x qual st f fd) (S : FnScope N [pv] (defScope st))
    (hbd : ∀ us rest : List Value, us.length = ([] : List Str).length → bindArgs fd ⟨us ++ rest, []⟩ = (newTuple rest >>= fun t => pure (([] : List Str).zip us ++ [(pv, t)])))
    (len : ∀ ds, ((∃ d, pre [.tup ds] d) ∨ ∃ C n, preE [.tup ds] C n) → ds.length ≤ 100000) (hN : 1 ≤ N.length)
    (hb : ∀ (cdv : Value) (A : Around) (outer : List PySem.Env) (s : Shared) (H : Hp) (E : XK), Room k (A.deeper (PyProof.Rows.envOfC qual (defScope st) s.heap.objs.size f cdv)) →
      ∃ t, PSs (cxOf (L2.CX P w) P w K mg base N qual (defScope st) f cdv A outer s H E) (defBody st) t ∧ (∀ ds d, pre [.tup ds] d → ∀ D : Ends, Ok K H D d → SD K [] H (fun _ => True) t D (entry N [.tup ds])) ∧
        ∀ ds C n, preE [.tup ds] C n → ∀ D : Ends, (∀ d H', Ex H H' → H' d = some (.xd [n]) → E (.ref C) (some d) H') → SD K [] H (fun _ => True) t D (entry N [.tup ds])) :
    FnR P w K mg base (L2.CX P w) (k + 1) f (PureE K (fun ds d => pre [.tup ds] d) (fun ds C n => preE [.tup ds] C n)) := by
  obtain ⟨oc, od, kV, doc, pm, an, cdv, ct, osl, rfl, lk, hcd⟩ := F.ex
  have z := StX.fn_star (P := P) (w := w) (mg := mg) (base := base) (k := k) (N := N) (CX := L2.CX P w) (ps := []) (pv := pv) lk hcd S StX.cxUp hbd (sp := PureE K (fun ds d => ∃ l, ds = [.tup l] ∧ pre [.tup l] d) (fun ds C n => ∃ l, ds = [.tup l] ∧ preE [.tup l] C n)) fun A outer s H vs Q E hr hsp => by
    obtain ⟨t, ht, hs, hx⟩ := hb cdv A outer s H E hr
    refine ⟨t, ht, ?_⟩
    obtain ⟨ds, h1, h2⟩ := hsp
    rcases h2 with ⟨d, ⟨l, rfl, h2⟩, h3⟩ | ⟨C, n, ⟨l, rfl, h2⟩, h3⟩
    · exact hs l d h2 _ ⟨fun v H' e i => h3 v H' (fun a o q => e a o (by simp) q) i, fun hd σ H' e => h3 .non H' e (hd ▸ .non)⟩ _ _ (env_entry h1 hN)
    · exact hx l C n h2 _ (fun d H' e q => h3 d H' e q) _ _ (env_entry h1 hN)
  refine z.imp fun vs H Q E ⟨ds, h1, h2⟩ => ⟨[], vs, rfl, rfl, ?_, fun p np => ?_⟩
  · rw [h1.length, sizeLine_eq]
    have : ds.length ≤ 100000 := len ds (h2.imp (fun ⟨d, h, _⟩ => ⟨d, h⟩) fun ⟨C, n, h, _⟩ => ⟨C, n, h⟩)
    omega
  · have up : Ex H (upd H p (.tup vs)) := Ex.new np
    refine ⟨[.tup ds], .one (.tup (SqT.of upd_same) (h1.mono up)), ?_⟩
    rcases h2 with ⟨d, h2, h3⟩ | ⟨C, n, h2, h3⟩
    · exact .inl ⟨d, ⟨ds, rfl, h2⟩, fun v H' e i => h3 v H' (up.trans e) i⟩
    · exact .inr ⟨C, n, ⟨ds, rfl, h2⟩, fun d H' e q => h3 d H' (up.trans e) q⟩
end
end Y
set_option Elab.async false
set_option linter.all false
set_option autoImplicit false
set_option maxRecDepth 100000
set_option maxHeartbeats 2000000
/-! {e for x in xs} of ints, after the kit's rule for truth values. -/
namespace Y
open PySem PySem.Spec PyProof.Rows L2
section
variable {X : Cx}
theorem addI_ok {pins : List (Addr × Obj)} {σ : L2.St} {H : Hp} {s : Shared} {E : Value → Shared → Prop} {D : Addr} {S : Int → Bool} {n : Nat} {k : Int} {tk : Tok} {Q : Value → Shared → Prop} (I : Inv X pins σ H s) (hD : H D = some (SetO X.w D S n)) (room : n + 1 < scanBound)
    (h : ∀ s', Inv X pins σ (upd H D (SetO X.w D (fun j => S j || decide (j = k)) (if S k = true then n else n + 1))) s' → Q .none s') : wpAny (model X.prog X.w) X.A (call (.builtin "set.add") [.ref D, .int k tk]) Q E s :=
  setR_add (setO_get I hD) room fun h' sb new => h _ (I.write (e := D) (t' := s.toks + 1) (by rw [hD]; trivial) (.inl rfl) (fun b u hb hu => (sb.2 b hb).trans hu) (by obtain ⟨o, _, _, _, ho, _⟩ := new; exact ⟨o, ho⟩) (setO_new new))
/-- {elt for target in iter}, elt an int: D the new set -/
def tScI (w : World) (wi : TI) (g : TG) (tt : TT) (te : TE) (vs : List Nat) : TE := fun σ H Q => wi σ H fun J H1 => ∀ D, H1 D = none → ∃ W : Nat → Nat → Hp → Prop, (∃ m, W 0 m (upd H1 D (SetO w D (fun _ => false) 0))) ∧ ∀ i m H, W i m H →
  (J.stop i H ∧ Q (.ref D) H) ∨ (J.go i H ∧ ∃ Nx : Hp → Prop, (∀ H', Nx H' → ∃ m', m' < m ∧ W (i + 1) m' H') ∧ ∀ x H', J.yld i H x H' → g x (wipe σ vs) H' fun σ2 H2 => wipe σ2 vs = wipe σ vs ∧ tt σ2 H2 fun b H3 =>
    if b = true then te σ2 H3 fun y H4 => ∃ (c : Int) (S : Int → Bool) (n : Nat), y = .int c ∧ H4 D = some (SetO w D S n) ∧ n + 1 < scanBound ∧ Nx (upd H4 D (SetO w D (fun j => S j || decide (j = c)) (if S c = true then n else n + 1))) else Nx H3)
/-- the block of such a comprehension, at the expression -/
structure BlkI (X : Cx) (scope : Scope) (tg elt : Expr) (ifs : List Expr) (g : TG) (tt : TT) (te : TE) : Prop where
  g : ∀ (s : Shared) (H : Hp) (C : Addr) (cl : List (PySem.Str × Addr)) (fp : List Addr), PG (X.blk s H scope (compEnvC scope cl C X.env) fp) tg g
  t : ∀ (s : Shared) (H : Hp) (C : Addr) (cl : List (PySem.Str × Addr)) (fp : List Addr), PTs (X.blk s H scope (compEnvC scope cl C X.env) fp) ifs tt
  e : ∀ (s : Shared) (H : Hp) (C : Addr) (cl : List (PySem.Str × Addr)) (fp : List Addr), PE (X.blk s H scope (compEnvC scope cl C X.env) fp) elt te
theorem pe_scI {elt tg iter : Expr} {ifs : List Expr} {scope : Scope} {own : List (PySem.Str × Nat)} {pos : Pos} {wi : TI} {g : TG} {tt : TT} {te : TE} (hc : X.calm = true) (hN : X.N.Nodup) (hi : PI X tg iter wi) (ok : BlkOk X.N X.env.scope scope own) (bl : BlkI X scope tg elt ifs g tt te)
    (hs : ∀ x, foldedSetIterable iter X.env x = pure x := by intro _; rfl) : PE X (.SetComp elt [⟨tg, iter, ifs, 0⟩] scope pos) (tScI X.w wi g tt te (own.map (·.2))) := by
  refine ⟨fun pins s σ H Q I h => ?_⟩
  have hfree : ∀ y ∈ scope.names, y.2 = .free → ∃ c, X.env.cells.lookup y.1 = some c := fun y hy e => (ok.free y hy e).elim (fun k => I.ok.has _ (.inl k)) fun k => I.ok.has _ (.inr k)
  rw [PpSet.eval_SetComp]
  refine wpAny_comprehension_free (use := none) rfl hs (closure_ok hfree) ok.kind (fun y hy e => by rw [ok.uniq y hy, e]) (thn (hi.run pins s σ H _ I h) fun xv s1 hx => thn hx fun itv s2 ⟨it, fp, tn, J, H2, ei, I2, T, st2, f2, q⟩ => ?_)
  subst ei
  refine PpSet.newSet_ok (newEnv_comp ?_)
  obtain ⟨D, hD⟩ : ∃ D, s2.heap.objs.size = D := ⟨_, rfl⟩
  rw [hD]
  obtain ⟨W, ⟨m0, w0⟩, turn⟩ := q D (I2.hok.fresh (Nat.le_of_eq hD))
  obtain ⟨s3, hs3⟩ : ∃ s3 : Shared, ({ s2 with heap := s2.heap.push { cls := .type "set", dict := none, data := .set #[] 0 (.fresh 0 0 (!X.w.params.followText "set-order")) } } : Shared) = s3 := ⟨_, rfl⟩
  rw [hs3]
  have h3 : s3.heap = s2.heap.push { cls := .type "set", dict := none, data := .set #[] 0 (.fresh 0 0 (!X.w.params.followText "set-order")) } := hs3 ▸ rfl
  have I3 : Inv X pins σ (upd H2 D (SetO X.w D (fun _ => false) 0)) s3 := hs3 ▸ I2.laid (t' := s2.toks) (fun b o e => Heap.get?_push_of_some _ e) (Nat.le_of_eq hD) (hD ▸ setO_new (setR_fresh X.w))
  have sz : ∀ b ∈ fp, b < s2.heap.objs.size := fun b hb => let ⟨o, e, _⟩ := T.obj _ _ st2 b hb; Heap.lt_size e
  obtain ⟨H3, hH3⟩ : ∃ H3, upd H2 D (SetO X.w D (fun _ => false) 0) = H3 := ⟨_, rfl⟩
  rw [hH3] at I3 w0
  have f3 : ∀ b ∈ fp, FpOk X pins H3 b ∧ b < s3.heap.objs.size := fun b hb => ⟨⟨by rw [← hH3, upd_ne (hD ▸ Nat.ne_of_lt (sz b hb))]; exact (f2 b hb).1, (f2 b hb).2⟩, by rw [h3, Heap.size_push]; exact Nat.lt_succ_of_lt (sz b hb)⟩
  have st3 : tn 0 s3.heap := T.keep _ _ _ st2 fun b _ o e => by rw [h3]; exact Heap.get?_push_of_some _ e
  obtain ⟨cl, hcl⟩ : ∃ cl, cellsFrom (s3.heap.objs.size + 1) scope.names (cloFrom X.env.cells scope.names []) = cl := ⟨_, rfl⟩
  have I4 := block_start I3 ok hN f3
  rw [hcl] at I4
  have pg := bl.g s3 H3 s3.heap.objs.size cl fp
  have pt := bl.t s3 H3 s3.heap.objs.size cl fp
  have pe := bl.e s3 H3 s3.heap.objs.size cl fp
  show codeAny _ _ (.compStart (.SetComp elt [⟨tg, iter, ifs, 0⟩] scope pos) 0 (.ref it) (.ref D) (compEnvC scope (cellsFrom (s3.heap.objs.size + 1) scope.names (cloFrom X.env.cells scope.names [])) s3.heap.objs.size X.env)) (compPost (model X.prog X.w) X.A X.xe none (L2.EP X pins σ Q) (.ref D) s3.heap.objs.size) { s3 with heap := pushCells (s3.heap.push { cls := .type "dict", data := .dict #[] }) scope.names }
  rw [hcl]
  obtain ⟨ce, hce⟩ : ∃ ce, compEnvC scope cl s3.heap.objs.size X.env = ce := ⟨_, rfl⟩
  rw [hce] at I4 pg pt pe ⊢
  have cL : ce.locals = s3.heap.objs.size := hce ▸ rfl
  obtain ⟨s4, hs4⟩ : ∃ s4 : Shared, ({ s3 with heap := pushCells (s3.heap.push { cls := .type "dict", data := .dict #[] }) scope.names } : Shared) = s4 := ⟨_, rfl⟩
  rw [hs4] at I4 ⊢
  have st4 : tn 0 s4.heap := T.keep _ _ _ st3 fun b _ o e => hs4 ▸ pushCells_keeps _ _ _ _ (Heap.get?_push_of_some _ e)
  have stat : ∀ {σ' : L2.St} {H' : Hp} {s' : Shared}, Inv (X.blk s3 H3 scope ce fp) [] σ' H' s' → (∀ b ∈ fp, H' b = none) → ∀ b ∈ fp, FpOk (X.blk s3 H3 scope ce fp) [] H' b := fun {σ' H' s'} I' hn b hb =>
    ⟨hn b hb, (I'.ok.exf b hb).1, I'.ok.exfs b hb, .inl hb, (I'.ok.exf b hb).2, fun p hp => absurd (show p ∈ ([] : List (Addr × Obj)) ++ [] from hp) (by simp)⟩
  have loop : codeAny (model X.prog X.w) X.A (.compLoop (.SetComp elt [⟨tg, iter, ifs, 0⟩] scope pos) 0 (.ref it) (.ref D) ce) (compPost (model X.prog X.w) X.A X.xe none (L2.EP X pins σ Q) (.ref D) s3.heap.objs.size) s4 := by
    refine PpSet.compLoopS_any (fun n s' => ∃ i H', Inv (X.blk s3 H3 scope ce fp) [] (wipe σ (own.map (·.2))) H' s' ∧ tn i s'.heap ∧ (∀ b ∈ fp, H' b = none) ∧ W i n H') (fun n s5 ⟨i, H5, I5, st5, n5, w5⟩ => ?_) m0 ⟨0, H3, I4, st4, fun b hb => (f3 b hb).1.1, w0⟩
    rcases turn i n H5 w5 with ⟨stop, qq⟩ | ⟨go, Nx, hNx, step⟩
    · refine thnF (T.done (X.blk s3 H3 scope ce fp) rfl rfl rfl hc i [] s5 _ H5 (fun _ _ => False) I5 (stat I5 n5) st5 stop) fun r s6 ⟨hr, I6⟩ => ?_
      subst hr
      have I7 : Inv X pins σ H5 s6 := I3.call' (ch := fp) I6.os I6.base I6.hok I6.bare fun b hb => let f := (f3 b hb).1.2; ⟨f.2.2.1, f.1, f.2.2.2.1, f.2.2.2.2⟩
      have nC : H5 s3.heap.objs.size = none := cL ▸ (show H5 ce.locals = none from I6.free)
      obtain ⟨m, hn, _⟩ := I6.loc
      have hn : s6.heap.Ns s3.heap.objs.size m := cL ▸ (show s6.heap.Ns ce.locals m from hn)
      obtain ⟨f0, f1, f2', f3', f4, f5⟩ := I3.fpOk (Nat.le_refl _) nC
      exact ⟨m, hn, fun h'' sb => ⟨.ref D, H5, I7.turned (t' := s6.toks) (fun b o hb e => (sb.2 b hb).trans e) f0 f1 f3' f4 f5, rfl, qq⟩⟩
    · refine thnF (T.item (X.blk s3 H3 scope ce fp) rfl rfl rfl hc i [] s5 _ H5 (fun _ _ => False) I5 (stat I5 n5) st5 go) fun r s6 ⟨u, hr, h6⟩ => ?_
      subst hr
      refine thnF h6 fun _ s7 ⟨x, H7, I7, r7, y7, st7, n7⟩ => thnF (pg.run _ s7 _ H7 x u _ (I7.pinned (stat I7 n7) (T.obj _ _ st7)) r7 (step x H7 y7)) fun _ s8 ⟨σ8, H8, I8, hw8, q8⟩ => thnF (pt.run _ s8 σ8 H8 _ I8 q8) fun b s9 ⟨H9, I9, q9⟩ => ?_
      have fin : ∀ {s' : Shared} {H' : Hp}, Inv (X.blk s3 H3 scope ce fp) ([] ++ pinsAt fp s7.heap) σ8 H' s' → Nx H' → ∃ m, m < n ∧ ∃ i H', Inv (X.blk s3 H3 scope ce fp) [] (wipe σ (own.map (·.2))) H' s' ∧ tn i s'.heap ∧ (∀ b ∈ fp, H' b = none) ∧ W i m H' := fun {s' H'} I' nx => by
        obtain ⟨m', hm, w'⟩ := hNx H' nx
        have pin' : ∀ b ∈ fp, ∀ o, s7.heap.get? b = some o → s'.heap.get? b = some o ∧ H' b = none := fun b hb o e => let z := I'.pin (b, o) (List.mem_append_right _ (List.mem_append_right _ (mem_pinsAt hb e))); ⟨z.1, z.2.1⟩
        exact ⟨m', hm, i + 1, H', (I'.unpinned (pins := [])).weak (by rw [← hw8, wipe_length]) (fun j v e => (wipe_some (hw8 ▸ e)).1), T.keep _ _ _ st7 fun b hb o e => (pin' b hb o e).1, fun b hb => let ⟨o, e, _⟩ := T.obj _ _ st7 b hb; (pin' b hb o e).2, w'⟩
      cases b with
      | false =>
        rw [if_neg Bool.false_ne_true] at q9
        exact fin I9 q9
      | true =>
        rw [if_pos rfl] at q9
        refine thnF (pe.run _ s9 σ8 H9 _ I9 q9) fun z s10 ⟨yv, H10, I10, r10, cb, S0, n0, ey, hD10, hz10, nx⟩ => ?_
        subst ey
        obtain ⟨tk, rfl⟩ := (show ∃ t, z = Value.int cb t from r10)
        exact addI_ok (X := X.blk s3 H3 scope ce fp) I10 hD10 hz10 fun s11 I11 => fin I11 nx
  exact PpSet.codeAny_compStart_set loop (T.self X.A 0 _ _ _ st4 loop)
end
end Y
set_option autoImplicit false
set_option linter.all false
/-! Least lots in general; names; families by the sets that hold a lot. -/
namespace KM
/-! ### each once -/
def dedS (r : List Nat) (x : Nat) : List Nat := if x ∈ r then r else r ++ [x]
def ded (l : List Nat) : List Nat := l.foldl dedS []
theorem ded_aux : ∀ (l r : List Nat), r.Nodup → (l.foldl dedS r).Nodup ∧ ∀ x, x ∈ l.foldl dedS r ↔ x ∈ r ∨ x ∈ l
  | [], r, h => ⟨h, fun x => by simp⟩
  | a :: l, r, h => by
    rw [List.foldl_cons]
    by_cases ha : a ∈ r
    · have e : dedS r a = r := by unfold dedS; rw [if_pos ha]
      rw [e]
      obtain ⟨h1, h2⟩ := ded_aux l r h
      refine ⟨h1, fun x => ?_⟩
      rw [h2 x, List.mem_cons]
      constructor
      · rintro (z | z)
        · exact .inl z
        · exact .inr (.inr z)
      · rintro (z | z | z)
        · exact .inl z
        · exact .inl (z ▸ ha)
        · exact .inr z
    · have e : dedS r a = r ++ [a] := by unfold dedS; rw [if_neg ha]
      rw [e]
      obtain ⟨h1, h2⟩ := ded_aux l (r ++ [a]) (List.nodup_append.mpr ⟨h, by simp, fun x hx y hy => by simp at hy; rintro rfl; exact ha (hy ▸ hx)⟩)
      refine ⟨h1, fun x => ?_⟩
      rw [h2 x]
      simp only [List.mem_append, List.mem_cons, List.not_mem_nil, or_false, or_assoc]
theorem ded_nodup (l : List Nat) : (ded l).Nodup := (ded_aux l [] List.nodup_nil).1
theorem ded_mem {l : List Nat} {x : Nat} : x ∈ ded l ↔ x ∈ l := by
  have := (ded_aux l [] List.nodup_nil).2 x
  simpa [ded] using this
theorem ded_len (l : List Nat) : (ded l).length ≤ l.length := by
  have : ∀ (l r : List Nat), (l.foldl dedS r).length ≤ r.length + l.length := by
    intro l
    induction l with
    | nil => intro r; simp
    | cons a l ih =>
      intro r
      rw [List.foldl_cons]
      have h1 := ih (dedS r a)
      have h2 : (dedS r a).length ≤ r.length + 1 := by unfold dedS; split <;> simp
      simp only [List.length_cons]
      omega
  simpa [ded] using this l []
def img (l : List Nat) : T := sortN (ded l)
theorem mem_img {l : List Nat} {x : Nat} : x ∈ img l ↔ x ∈ l := by unfold img; rw [sortN_mem, ded_mem]
theorem img_asc (l : List Nat) : Asc (img l) := sortN_nd (ded_nodup l)
theorem img_len (l : List Nat) : (img l).length ≤ l.length := by
  unfold img
  rw [(sortN_perm _).length_eq]
  exact ded_len l
theorem img_nd {l : List Nat} (h : l.Nodup) : img l = sortN l := asc_ext (img_asc l) (sortN_nd h) fun x => by rw [mem_img, sortN_mem]
/-! ### least lots -/
theorem leastM_aux : ∀ (r pre kept : List Nat), r.Pairwise (· ≤ ·) → (∀ a ∈ pre, ∀ b ∈ r, a ≤ b) → kept.Nodup → (∀ x ∈ kept, x ∈ pre) → (∀ x ∈ pre, ∃ o ∈ kept, Sb o x) → (∀ a ∈ kept, ∀ b ∈ kept, Sb a b → a = b) →
    (r.foldl leastStep kept).Nodup ∧ (∀ x ∈ r.foldl leastStep kept, x ∈ pre ∨ x ∈ r) ∧ (∀ x, x ∈ pre ∨ x ∈ r → ∃ o ∈ r.foldl leastStep kept, Sb o x) ∧ ∀ a ∈ r.foldl leastStep kept, ∀ b ∈ r.foldl leastStep kept, Sb a b → a = b
  | [], pre, kept, _, _, h1, h2, h3, h4 => ⟨h1, fun x hx => .inl (h2 x hx), fun x hx => h3 x (by simpa using hx), h4⟩
  | m :: r, pre, kept, hs, hle, h1, h2, h3, h4 => by
    rw [List.foldl_cons]
    have hs' := List.pairwise_cons.mp hs
    have hle' : ∀ a ∈ pre ++ [m], ∀ b ∈ r, a ≤ b := fun a ha b hb => by
      rcases List.mem_append.mp ha with ha | ha
      · exact hle a ha b (List.mem_cons_of_mem _ hb)
      · simp at ha; rw [ha]; exact hs'.1 b hb
    have fin : ∀ {k : List Nat}, ((r.foldl leastStep k).Nodup ∧ (∀ x ∈ r.foldl leastStep k, x ∈ pre ++ [m] ∨ x ∈ r) ∧ (∀ x, x ∈ pre ++ [m] ∨ x ∈ r → ∃ o ∈ r.foldl leastStep k, Sb o x) ∧ ∀ a ∈ r.foldl leastStep k, ∀ b ∈ r.foldl leastStep k, Sb a b → a = b) →
        (r.foldl leastStep k).Nodup ∧ (∀ x ∈ r.foldl leastStep k, x ∈ pre ∨ x ∈ m :: r) ∧ (∀ x, x ∈ pre ∨ x ∈ m :: r → ∃ o ∈ r.foldl leastStep k, Sb o x) ∧ ∀ a ∈ r.foldl leastStep k, ∀ b ∈ r.foldl leastStep k, Sb a b → a = b := fun {k} ⟨a, b, c, d⟩ =>
      ⟨a, fun x hx => by have := b x hx; simp only [List.mem_append, List.mem_cons, List.not_mem_nil, or_false] at this ⊢; rcases this with (z | z) | z <;> simp [z], fun x hx => c x (by simp only [List.mem_append, List.mem_cons, List.not_mem_nil, or_false] at hx ⊢; rcases hx with z | z | z <;> simp [z]), d⟩
    by_cases hk : ∃ o ∈ kept, Sb o m
    · have e : leastStep kept m = kept := by
        unfold leastStep
        rw [if_neg]
        intro hall
        obtain ⟨o, ho, hom⟩ := hk
        have := List.all_eq_true.mp hall o ho
        rw [not_sb] at this
        exact this hom
      rw [e]
      refine fin (leastM_aux r (pre ++ [m]) kept hs'.2 hle' h1 (fun x hx => List.mem_append_left _ (h2 x hx)) (fun x hx => ?_) h4)
      rcases List.mem_append.mp hx with hx | hx
      · exact h3 x hx
      · simp at hx; rw [hx]; exact hk
    · have hk' : ∀ o ∈ kept, ¬ Sb o m := fun o ho z => hk ⟨o, ho, z⟩
      have e : leastStep kept m = kept ++ [m] := by
        unfold leastStep
        rw [if_pos]
        exact List.all_eq_true.mpr fun o ho => not_sb.mpr (hk' o ho)
      rw [e]
      refine fin (leastM_aux r (pre ++ [m]) (kept ++ [m]) hs'.2 hle' ?_ (fun x hx => ?_) (fun x hx => ?_) (fun a ha b hb s => ?_))
      · exact List.nodup_append.mpr ⟨h1, by simp, fun x hx y hy => by simp at hy; rintro rfl; exact hk' x hx (hy ▸ Sb.refl _)⟩
      · rcases List.mem_append.mp hx with hx | hx
        · exact List.mem_append_left _ (h2 x hx)
        · exact List.mem_append_right _ hx
      · rcases List.mem_append.mp hx with hx | hx
        · obtain ⟨o, ho, s⟩ := h3 x hx
          exact ⟨o, List.mem_append_left _ ho, s⟩
        · exact ⟨x, List.mem_append_right _ hx, Sb.refl x⟩
      · rcases List.mem_append.mp ha with a1 | a1 <;> rcases List.mem_append.mp hb with b1 | b1
        · exact h4 a a1 b b1 s
        · have e : b = m := by simpa using b1
          exact absurd (e ▸ s) (hk' a a1)
        · have e : a = m := by simpa using a1
          have : b ≤ m := hle b (h2 b b1) m (by simp)
          exact Nat.le_antisymm s.le (e ▸ this)
        · have e : b = m := by simpa using b1
          have e' : a = m := by simpa using a1
          rw [e, e']
theorem leastM_mem {ms : List Nat} {x : Nat} : x ∈ leastMasks ms ↔ x ∈ ms ∧ ∀ o ∈ ms, Sb o x → o = x := by
  obtain ⟨_, h2, h3, h4⟩ := leastM_aux (sortN ms) [] [] (sortN_le ms) (by simp) List.nodup_nil (by simp) (by simp) (by simp)
  have e : leastMasks ms = (sortN ms).foldl leastStep [] := rfl
  rw [← e] at h2 h3 h4
  constructor
  · intro hx
    refine ⟨by simpa [sortN_mem] using h2 x hx, fun o ho s => ?_⟩
    obtain ⟨o', ho', s'⟩ := h3 o (.inr (sortN_mem.mpr ho))
    have := h4 o' ho' x hx (s'.trans s)
    subst this
    exact Sb.antisymm s s'
  · rintro ⟨hx, hm⟩
    obtain ⟨o, ho, s⟩ := h3 x (.inr (sortN_mem.mpr hx))
    have : o ∈ ms := by simpa [sortN_mem] using h2 o ho
    rw [← hm o this s]
    exact ho
theorem leastM_nodup (ms : List Nat) : (leastMasks ms).Nodup := (leastM_aux (sortN ms) [] [] (sortN_le ms) (by simp) List.nodup_nil (by simp) (by simp) (by simp)).1
theorem sb_mask {l m : T} (a : Asc l) (b : Asc m) : Sb (maskOf l) (maskOf m) ↔ ∀ x ∈ l, x ∈ m := by
  constructor
  · intro s x hx
    exact (mask_bit_iff b).mp (s x ((mask_bit_iff a).mpr hx))
  · intro s i hi
    exact (mask_bit_iff b).mpr (s i ((mask_bit_iff a).mp hi))
theorem least_mem {L : List T} (ha : ∀ l ∈ L, Asc l) {s : T} : s ∈ leastLots L ↔ s ∈ L ∧ ∀ o ∈ L, (∀ y ∈ o, y ∈ s) → o = s := by
  unfold leastLots lotsOfMasks
  rw [srt_mem, List.mem_map]
  constructor
  · rintro ⟨m, hm, rfl⟩
    obtain ⟨h1, h2⟩ := leastM_mem.mp hm
    obtain ⟨l, hl, rfl⟩ := List.mem_map.mp h1
    rw [things_mask (ha l hl)]
    exact ⟨hl, fun o ho s => mask_inj (ha o ho) (ha l hl) (h2 _ (List.mem_map.mpr ⟨o, ho, rfl⟩) ((sb_mask (ha o ho) (ha l hl)).mpr s))⟩
  · rintro ⟨h1, h2⟩
    refine ⟨maskOf s, leastM_mem.mpr ⟨List.mem_map.mpr ⟨s, h1, rfl⟩, fun o ho sb => ?_⟩, things_mask (ha s h1)⟩
    obtain ⟨l, hl, rfl⟩ := List.mem_map.mp ho
    rw [h2 l hl ((sb_mask (ha l hl) (ha s h1)).mp sb)]
theorem least_lt (L : List T) : (leastLots L).Pairwise (· < ·) := by
  unfold leastLots lotsOfMasks
  exact srt_lt (List.pairwise_map.mpr ((leastM_nodup _).imp fun h e => h (things_inj e)))
theorem least_eq {L : List T} (ha : ∀ l ∈ L, Asc l) : leastLots L = leastL L := ltT_ext (least_lt L) (leastL_lt L) fun x => by
  rw [least_mem ha, leastL_mem]
  constructor
  · rintro ⟨h1, h2⟩
    exact ⟨h1, fun o ho hne s => hne (h2 o ho s)⟩
  · rintro ⟨h1, h2⟩
    exact ⟨h1, fun o ho s => Classical.byContradiction fun z => h2 o ho z s⟩
/-! ### by the sets that hold a lot -/
theorem gf_ext {n : Nat} {L M : List T} (g : GF n L) (h : GF n M) (e : ∀ s, Asc s → (∀ x ∈ s, x < n) → holds L s = holds M s) : L = M := by
  have one : ∀ {L M : List T}, GF n L → GF n M → (∀ s, Asc s → (∀ x ∈ s, x < n) → holds L s = holds M s) → ∀ l ∈ L, l ∈ M := fun {L M} g h e l hl => by
    have h1 : holds M l = true := by
      rw [← e l (g.g.asc l hl) (g.lt l hl)]
      exact holds_iff.mpr ⟨l, hl, fun _ h => h⟩
    obtain ⟨m, hm, s⟩ := holds_iff.mp h1
    have h2 : holds L m = true := by
      rw [e m (h.g.asc m hm) (h.lt m hm)]
      exact holds_iff.mpr ⟨m, hm, fun _ h => h⟩
    obtain ⟨l', hl', s'⟩ := holds_iff.mp h2
    have := g.g.anti l' hl' l hl fun x hx => s x (s' x hx)
    subst this
    rw [asc_ext (g.g.asc l' hl') (h.g.asc m hm) fun x => ⟨s' x, s x⟩]
    exact hm
  exact ltT_ext g.g.lt h.g.lt fun x => ⟨one g h e x, one h g (fun s a b => (e s a b).symm) x⟩
theorem holds_least {fs : List T} (ha : ∀ l ∈ fs, Asc l) (s : T) : holds (leastL fs) s = holds fs s := by
  rw [Bool.eq_iff_iff, holds_iff, holds_iff]
  constructor
  · rintro ⟨l, hl, h⟩
    exact ⟨l, (leastL_mem.mp hl).1, h⟩
  · rintro ⟨l, hl, h⟩
    obtain ⟨m, hm, h2⟩ := least_ex ha l.length l hl rfl
    exact ⟨m, hm, fun x hx => h x (h2 x hx)⟩
theorem leastLots_gf {n : Nat} {fs : List T} (n1 : 1 ≤ n) (ne : fs ≠ []) (ha : ∀ l ∈ fs, Asc l) (hn : ∀ l ∈ fs, l ≠ []) (hl : ∀ l ∈ fs, ∀ x ∈ l, x < n) : GF n (leastLots fs) := by
  rw [least_eq ha]
  exact least_gf n1 ne ha hn hl
/-! ### names -/
def nm (names : List Nat) (l : T) : T := img (l.map fun t => names.getD t 0)
def mg (names : List Nat) (L : List T) : List T := leastL (L.map (nm names))
def under (n : Nat) (names : List Nat) (s : T) : T := (List.range n).filter fun t => decide (names.getD t 0 ∈ s)
theorem mem_nm {names : List Nat} {l : T} {x : Nat} : x ∈ nm names l ↔ ∃ t ∈ l, names.getD t 0 = x := by
  unfold nm
  rw [mem_img, List.mem_map]
theorem nm_asc (names : List Nat) (l : T) : Asc (nm names l) := img_asc _
theorem nm_ne {names : List Nat} {l : T} (h : l ≠ []) : nm names l ≠ [] := by
  obtain ⟨t, r, rfl⟩ := List.exists_cons_of_ne_nil h
  exact List.ne_nil_of_mem (mem_nm.mpr ⟨t, by simp, rfl⟩)
/-- names of n things, below w -/
structure Nms (n w : Nat) (names : List Nat) : Prop where
  len : names.length = n
  lt : ∀ x ∈ names, x < w
theorem Nms.at {n w : Nat} {names : List Nat} (h : Nms n w names) {t : Nat} (ht : t < n) : names.getD t 0 < w := by
  have : t < names.length := by rw [h.len]; exact ht
  rw [List.getD_eq_getElem?_getD, List.getElem?_eq_getElem this]
  exact h.lt _ (List.getElem_mem this)
theorem nm_lt {n w : Nat} {names : List Nat} (h : Nms n w names) {l : T} (hl : ∀ x ∈ l, x < n) : ∀ x ∈ nm names l, x < w := fun x hx => by
  obtain ⟨t, ht, rfl⟩ := mem_nm.mp hx
  exact h.at (hl t ht)
theorem mem_under {n : Nat} {names : List Nat} {s : T} {t : Nat} : t ∈ under n names s ↔ t < n ∧ names.getD t 0 ∈ s := by
  unfold under
  rw [List.mem_filter, List.mem_range, decide_eq_true_iff]
theorem under_asc (n : Nat) (names : List Nat) (s : T) : Asc (under n names s) := (range_asc n).filter _
theorem mg_in {n w : Nat} {names : List Nat} {L : List T} (h : Nms n w names) (g : GF n L) : (∀ l ∈ L.map (nm names), Asc l) ∧ (∀ l ∈ L.map (nm names), l ≠ []) ∧ (∀ l ∈ L.map (nm names), ∀ x ∈ l, x < w) ∧ L.map (nm names) ≠ [] := by
  refine ⟨fun l hl => ?_, fun l hl => ?_, fun l hl => ?_, by simpa using g.ne⟩ <;> obtain ⟨m, hm, rfl⟩ := List.mem_map.mp hl
  · exact nm_asc _ _
  · exact nm_ne (g.lne m hm)
  · exact nm_lt h (g.lt m hm)
theorem mg_gf {n w : Nat} {names : List Nat} {L : List T} (h : Nms n w names) (g : GF n L) (w1 : 1 ≤ w) : GF w (mg names L) := by
  obtain ⟨a, b, c, d⟩ := mg_in h g
  exact least_gf w1 d a b c
theorem mg_holds {n w : Nat} {names : List Nat} {L : List T} (h : Nms n w names) (g : GF n L) (s : T) : holds (mg names L) s = holds L (under n names s) := by
  unfold mg
  rw [holds_least (mg_in h g).1, Bool.eq_iff_iff, holds_iff, holds_iff]
  constructor
  · rintro ⟨l, hl, k⟩
    obtain ⟨m, hm, rfl⟩ := List.mem_map.mp hl
    exact ⟨m, hm, fun x hx => mem_under.mpr ⟨g.lt m hm x hx, k _ (mem_nm.mpr ⟨x, hx, rfl⟩)⟩⟩
  · rintro ⟨m, hm, k⟩
    refine ⟨nm names m, List.mem_map.mpr ⟨m, hm, rfl⟩, fun x hx => ?_⟩
    obtain ⟨t, ht, rfl⟩ := mem_nm.mp hx
    exact (mem_under.mp (k t ht)).2
theorem rest_rest {n : Nat} {s : T} (hs : ∀ x ∈ s, x < n) : ∀ x, x ∈ rest n (rest n s) ↔ x ∈ s := fun x => by
  rw [mem_rest, mem_rest]
  constructor
  · rintro ⟨h1, h2⟩
    exact Classical.byContradiction fun z => h2 ⟨h1, z⟩
  · intro h
    exact ⟨hs x h, fun z => z.2 h⟩
theorem blk_holds {n : Nat} {L : List T} (g : GF n L) {s : T} (hs : ∀ x ∈ s, x < n) : holds (blockerLots L) s = !holds L (rest n s) := by
  rw [← set_or_rest g (s := rest n s) fun x hx => (mem_rest.mp hx).1]
  exact holds_congr fun x => (rest_rest hs x).symm
theorem mg_blk {n w : Nat} {names : List Nat} {L : List T} (h : Nms n w names) (g : GF n L) (w1 : 1 ≤ w) : mg names (blockerLots L) = blockerLots (mg names L) := by
  refine gf_ext (mg_gf h (blocker_gf g) w1) (blocker_gf (mg_gf h g w1)) fun s _ hs => ?_
  rw [mg_holds h (blocker_gf g), blk_holds (mg_gf h g w1) hs, mg_holds h g, blk_holds g fun x hx => (mem_under.mp hx).1]
  congr 1
  refine holds_congr fun x => ?_
  rw [mem_rest, mem_under, mem_under, mem_rest]
  constructor
  · rintro ⟨h1, h2⟩
    exact ⟨h1, h.at h1, fun z => h2 ⟨h1, z⟩⟩
  · rintro ⟨h1, _, h2⟩
    exact ⟨h1, fun z => h2 z.2⟩
/-- there and back -/
theorem mg_back {n : Nat} {ord back : List Nat} {L : List T} (h : Nms n n ord) (k : Nms n n back) (g : GF n L) (e : ∀ t, t < n → back.getD (ord.getD t 0) 0 = t) : mg back (mg ord L) = L := by
  have g1 := mg_gf h g g.n1
  refine gf_ext (mg_gf k g1 g.n1) g fun s _ hs => ?_
  rw [mg_holds k g1, mg_holds h g]
  refine holds_congr fun x => ?_
  rw [mem_under, mem_under]
  constructor
  · rintro ⟨h1, _, h2⟩
    rwa [e x h1] at h2
  · intro hx
    exact ⟨hs x hx, h.at (hs x hx), by rw [e x (hs x hx)]; exact hx⟩
end KM
set_option Elab.async false
set_option linter.all false
set_option autoImplicit false
set_option maxRecDepth 100000
set_option maxHeartbeats 1000000
/-! Comprehensions with two fors; over lists that stand apart; sorted({..}); isinstance of something else. -/
namespace Y
open PySem L2
section
variable {K : PySem.W.Frag} {B : List Addr} {H0 : Hp} {Z : Hp → Prop} {E : List Slot} {ta tb tc tc1 te : TE} {t u : TT} {ea ea1 : TA} {x y z d : D} {l m : List D} {b c : Bool} {De : Ends}
theorem fl_step {α : Type} {l : List α} {i : Nat} {a : α} (f : α → List D) (h : l[i]? = some a) : (l.take (i + 1)).flatMap f = (l.take i).flatMap f ++ f a := by
  rw [take_step h, List.flatMap_append]
  simp
theorem fl_le {α : Type} {l : List α} {i : Nat} (f : α → List D) : ((l.take i).flatMap f).length ≤ (l.flatMap f).length := by
  conv => rhs; rw [← List.take_append_drop i l]
  rw [List.flatMap_append, List.length_append]
  omega
theorem wipe2 (σ : L2.St) {j j1 : Nat} (hj : j ≠ j1) (x : Option V) : wipe ((wipe σ [j, j1]).set j x) [j, j1] = wipe σ [j, j1] := by
  show ((((σ.set j1 none).set j none).set j x).set j1 none).set j none = (σ.set j1 none).set j none
  rw [List.set_set, List.set_comm _ _ hj, List.set_set, List.set_set]
/-- one more item of a comprehension -/
theorem lcw_add {Hb : Hp} {p : Addr} {l : List D} {H' H4 : Hp} {y : V} {d : D} (w : Lcw K Hb p l H') (e4 : Ex H' H4) (hy : Is K H4 y d) (im : d.im = true) : ∃ acc, H4 p = some (.lst acc) ∧ acc.length = l.length ∧ Lcw K Hb p (l ++ [d]) (upd H4 p (.lst (acc ++ [y]))) := by
  obtain ⟨acc, w1, w2⟩ := w.at_
  refine ⟨acc, e4 _ _ w1, w2.length, w.fr, fun a o q => ?_, acc ++ [y], upd_same, ?_⟩
  · rw [upd_ne (ne_of_none q w.fr)]
    exact e4 _ _ (w.ex _ _ q)
  · have e5 : Ex (hid [p] H4) (hid [p] (upd H4 p (.lst (acc ++ [y])))) := fun a o q => by
      obtain ⟨q1, q2⟩ := hid_some q
      rw [hid_at q1, upd_ne (by simpa using q1)]
      exact q2
    refine ((w2.mono (hid_ex e4)).mono e5).append (.one ((hy.clean (fun a ha => ?_) im).mono e5))
    have : a = p := by simpa using ha
    exact ⟨acc, by rw [this]; exact e4 _ _ w1⟩
/-- what an inner for must give -/
def InFor (J : It) (j1 : Nat) (te : TE) (σ2 : L2.St) (p : Addr) (H3 : Hp) (Nx : Hp → Prop) : Prop := ∃ W1 : Nat → Nat → Hp → Prop, (∃ m, W1 0 m H3) ∧ ∀ j k H, W1 j k H →
  (J.stop j H ∧ Nx H) ∨ (J.go j H ∧ ∃ Nx1 : Hp → Prop, (∀ H', Nx1 H' → ∃ k', k' < k ∧ W1 (j + 1) k' H') ∧ ∀ x H', J.yld j H x H' → gName j1 x (wipe σ2 [j1]) H' fun σ3 H5 => wipe σ3 [j1] = wipe σ2 [j1] ∧ tYes σ3 H5 fun b H6 =>
    if b = true then te σ3 H6 fun y H7 => ∃ acc, H7 p = some (.lst acc) ∧ acc.length < sizeLine ∧ Nx1 (upd H7 p (.lst (acc ++ [y]))) else Nx1 H6)
theorem in_for {β : Type} {J : It} {j1 : Nat} {σ2 : L2.St} {Hb : Hp} {p : Addr} {pre : List D} {H3 : Hp} {us : List β} (g : β → D) (w : Lcw K Hb p pre H3) (hz : (pre ++ us.map g).length < 100000) (im : ∀ b ∈ us, (g b).im = true)
    (hst : ∀ H, Ex Hb H → J.stop us.length H) (hgo : ∀ j H, j < us.length → Ex Hb H → J.go j H) (hy : ∀ (j : Nat) b H x H', us[j]? = some b → Ex Hb H → J.yld j H x H' → H' = H ∧ ∀ Q : VK, (∀ y H', Ex H H' → Is K H' y (g b) → Q y H') → te ((wipe σ2 [j1]).set j1 (some x)) H Q)
    {Nx : Hp → Prop} (hn : ∀ H4, Lcw K Hb p (pre ++ us.map g) H4 → Nx H4) : InFor J j1 te σ2 p H3 Nx := by
  refine ⟨fun j k H => k = us.length - j ∧ j ≤ us.length ∧ Lcw K Hb p (pre ++ (us.take j).map g) H, ⟨_, rfl, Nat.zero_le _, by simpa using w⟩, ?_⟩
  rintro j k H ⟨rfl, hj, w1⟩
  by_cases hlt : j < us.length
  · refine .inr ⟨hgo j H hlt w1.ex, fun H' => Lcw K Hb p (pre ++ (us.take (j + 1)).map g) H', fun H' w' => ⟨us.length - (j + 1), by omega, rfl, hlt, w'⟩, fun x H' y => ?_⟩
    have e1 := List.getElem?_eq_getElem hlt
    obtain ⟨rfl, he⟩ := hy j us[j] H x H' e1 w1.ex y
    refine ⟨wipe1 σ2 j1 _, ?_⟩
    show te _ _ _
    refine he _ fun y H7 e7 h7 => ?_
    obtain ⟨acc, a1, a2, a3⟩ := lcw_add w1 e7 h7 (im _ (List.getElem_mem hlt))
    refine ⟨acc, a1, ?_, ?_⟩
    · rw [a2, sizeLine_eq]
      have : ((us.take j).map g).length ≤ (us.map g).length := by rw [List.length_map, List.length_map, List.length_take]; omega
      rw [List.length_append] at hz ⊢
      omega
    · rw [take_step e1, List.map_append, ← List.append_assoc]
      exact a3
  · have : j = us.length := by omega
    subst this
    rw [List.take_length] at w1
    exact .inl ⟨hst H w1.ex, hn H w1⟩
/-- a reading that gives what was there -/
def ERd (K : PySem.W.Frag) (B : List Addr) (H0 : Hp) (Z : Hp → Prop) (te : TE) (E : List Slot) (d : D) : Prop := ∀ σ Hb H, Env K B H0 Z E σ Hb → Ex Hb H → ∀ Q : VK, (∀ v, Is K Hb v d → Q v H) → te σ H Q
theorem erd_var {i : Nat} (h : E[i]? = some (.val d)) : ERd K B H0 Z (tVar i) E d := fun σ Hb H e x Q q => by
  obtain ⟨v, h1, h2⟩ := e.val i d h
  exact ⟨v, h1, q v (h2.mono (hid_le _ _))⟩
theorem erd_ix {k : Int} (ha : ERd K B H0 Z ta E (.lst l)) (hb : ERd K B H0 Z tb E (.int k)) (hk : atI l k = some d) : ERd K B H0 Z (tOp (rIxL K) ta tb) E d := fun σ Hb H e x Q q =>
  ha σ Hb H e x _ fun v h1 => hb σ Hb H e x _ fun u h2 => by
    cases h2
    cases h1 with
    | lst hq ht =>
      rename_i a xs
      have hl := ht.length
      obtain ⟨j, hj1, hj2⟩ := Option.bind_eq_some_iff.mp hk
      obtain ⟨v, hv, hv2⟩ := ht.getD hj2
      exact ⟨a, xs, k, v, rfl, rfl, sqL_ex x hq, Option.bind_eq_some_iff.mpr ⟨j, by rw [hl]; exact hj1, hv⟩, q v hv2⟩
/-- the slots within -/
abbrev in2 (E : List Slot) (j j1 : Nat) (d : D) : List Slot := ((E.set j1 .no).set j .no).set j (.val d)
theorem lc2_out {α : Type} {j j1 : Nat} {wi1 : TI} (hj : j ≠ j1) (c : α → D) {ts : List α} (G : α → List D) (h : EP K B H0 Z tc E (.lst (ts.map c))) (imc : ∀ a ∈ ts, (c a).im = true)
    (hin : ∀ a ∈ ts, ∀ σ2 Hb, Env K B H0 Z (in2 E j j1 (c a)) σ2 Hb → ∀ p pre H3, Lcw K Hb p pre H3 → (pre ++ G a).length ≤ (ts.flatMap G).length → ∀ Nx : Hp → Prop, (∀ H4, Lcw K Hb p (pre ++ G a) H4 → Nx H4) → wi1 σ2 H3 fun J1 H4 => InFor J1 j1 te σ2 p H4 Nx) :
    EF K B H0 Z (tLc2 (iList K tc) (gName j) tYes wi1 (gName j1) tYes te [j, j1] [j1]) E (ts.flatMap G) := fun σ H e Q q =>
  h σ H e _ fun v H1 e1 h1 => by
    have e' := e.ext e1
    cases h1 with
    | lst hq ha =>
      rename_i r xs
      have hl : xs.length = ts.length := by rw [ha.length, List.length_map]
      refine ⟨r, rfl, ⟨xs, hq⟩, fun p np => ?_⟩
      refine ⟨fun i m H' => m = ts.length - i ∧ i ≤ ts.length ∧ Lcw K H1 p ((ts.take i).flatMap G) H', ⟨_, rfl, Nat.zero_le _, np, Ex.new np, [], upd_same, by simpa using IsAll.nil⟩, ?_⟩
      rintro i m H' ⟨rfl, hi, w⟩
      by_cases hlt : i < ts.length
      · have e1' := List.getElem?_eq_getElem hlt
        refine .inr ⟨⟨xs, xs[i]'(by omega), sqL_ex w.ex hq, by simp [hl, hlt]⟩, fun H' => Lcw K H1 p ((ts.take (i + 1)).flatMap G) H', fun H' w' => ⟨ts.length - (i + 1), by omega, rfl, hlt, w'⟩, ?_⟩
        rintro x H'' ⟨rfl, hx⟩
        have hx := hx xs (sqL_ex w.ex hq)
        obtain ⟨d, hd1, hd2⟩ := ha.get hx
        obtain ⟨a, ha1, rfl⟩ := map_at hd1
        have ham : a ∈ ts := List.mem_of_getElem? ha1
        refine ⟨wipe2 σ hj _, ?_⟩
        show wi1 _ _ _
        refine hin a ham ((wipe σ [j, j1]).set j (some x)) H1 (((e'.setNo j1).setNo j).set hd2 (imc a ham)) p _ _ w ?_ _ fun H4 w4 => ?_
        · rw [← fl_step G ha1]
          exact fl_le G
        · rw [fl_step G ha1]
          exact w4
      · have : i = ts.length := by omega
        subst this
        rw [List.take_length] at w
        refine .inl ⟨⟨xs, sqL_ex w.ex hq, by omega⟩, ?_⟩
        obtain ⟨acc, w1, w2⟩ := w.at_
        exact q p acc H' (e1.back np) (e1.trans w.ex) w1 (w2.mono (hid_le _ _))
/-- [e for x in xs for y in ys(x)] -/
theorem ef_lc2LL {α β : Type} {j j1 : Nat} (hj : j ≠ j1) (c : α → D) {ts : List α} (c1 : β → D) (us : α → List β) (g : α → β → D) (h : EP K B H0 Z tc E (.lst (ts.map c))) (imc : ∀ a ∈ ts, (c a).im = true) (imc1 : ∀ a ∈ ts, ∀ b ∈ us a, (c1 b).im = true) (img : ∀ a ∈ ts, ∀ b ∈ us a, (g a b).im = true)
    (hz : (ts.flatMap fun a => (us a).map (g a)).length < 100000) (h1 : ∀ a ∈ ts, ERd K B H0 Z tc1 (in2 E j j1 (c a)) (.lst ((us a).map c1))) (he : ∀ a ∈ ts, ∀ b ∈ us a, EP K B H0 Z te (((in2 E j j1 (c a)).set j1 .no).set j1 (.val (c1 b))) (g a b)) :
    EF K B H0 Z (tLc2 (iList K tc) (gName j) tYes (iList K tc1) (gName j1) tYes te [j, j1] [j1]) E (ts.flatMap fun a => (us a).map (g a)) :=
  lc2_out hj c (fun a => (us a).map (g a)) h imc fun a ha σ2 Hb e2 p pre H3 w hle Nx hn => h1 a ha σ2 Hb H3 e2 w.ex _ fun v hv => by
    cases hv with
    | lst hq hx =>
      rename_i r xs
      have hl : xs.length = (us a).length := by rw [hx.length, List.length_map]
      refine ⟨r, rfl, ⟨xs, sqL_ex w.ex hq⟩, in_for (J := Itl K r) (us := us a) (g a) w (by omega) (img a ha) (fun H ex => ⟨xs, sqL_ex ex hq, by omega⟩) (fun j H hj ex => ⟨xs, xs[j]'(by omega), sqL_ex ex hq, by simp [hl, hj]⟩) ?_ hn⟩
      rintro i b H x H' hb ex ⟨rfl, hy⟩
      have hy := hy xs (sqL_ex ex hq)
      obtain ⟨d, hd1, hd2⟩ := hx.get hy
      obtain ⟨b', hb1, rfl⟩ := map_at hd1
      rw [hb] at hb1
      obtain rfl := Option.some.inj hb1
      have hbm : b ∈ us a := List.mem_of_getElem? hb
      exact ⟨rfl, fun Q q => he a ha b hbm _ _ (((e2.setNo j1).set hd2 (imc1 a ha b hbm)).ext ex) Q q⟩
/-- [e for x in xs for i in range(lo, n)] -/
theorem ef_lc2LR {α : Type} {j j1 : Nat} (hj : j ≠ j1) (c : α → D) {ts : List α} (lo n : α → Int) (g : α → Nat → D) (h : EP K B H0 Z tc E (.lst (ts.map c))) (imc : ∀ a ∈ ts, (c a).im = true) (img : ∀ a ∈ ts, ∀ b ∈ List.range (n a - lo a).toNat, (g a b).im = true)
    (hz : (ts.flatMap fun a => (List.range (n a - lo a).toNat).map (g a)).length < 100000) (hn : ∀ a ∈ ts, -100000 ≤ lo a ∧ lo a < 100000 ∧ -100000 ≤ n a ∧ n a < 100000) (h1 : ∀ a ∈ ts, EA K B H0 Z ea1 (in2 E j j1 (c a)) [.int (lo a), .int (n a)])
    (he : ∀ a ∈ ts, ∀ b ∈ List.range (n a - lo a).toNat, EP K B H0 Z te (((in2 E j j1 (c a)).set j1 .no).set j1 (.val (.int (lo a + (b : Int))))) (g a b)) :
    EF K B H0 Z (tLc2 (iList K tc) (gName j) tYes (iRng2 ea1) (gName j1) tYes te [j, j1] [j1]) E (ts.flatMap fun a => (List.range (n a - lo a).toNat).map (g a)) :=
  lc2_out hj c (fun a => (List.range (n a - lo a).toNat).map (g a)) h imc fun a ha σ2 Hb e2 p pre H3 w hle Nx hN => h1 a ha σ2 H3 (e2.ext w.ex) _ fun vs H4 e4 hv => by
    have : vs = [.int (lo a), .int (n a)] := by
      cases hv with
      | cons a t =>
        cases a
        cases t with
        | cons a t => cases a; cases t; rfl
    subst this
    have hr := hn a ha
    have w4 : Lcw K Hb p pre H4 := by
      obtain ⟨acc, w1, w2⟩ := w.at_
      exact ⟨w.fr, w.ex.trans e4, acc, e4 _ _ w1, w2.mono (hid_ex e4)⟩
    refine ⟨lo a, n a, rfl, ⟨by omega, by omega, by omega, by omega⟩, in_for (J := Itr (lo a) (n a - lo a).toNat) (us := List.range (n a - lo a).toNat) (g a) w4 (by omega) (img a ha) (fun H _ => by rw [List.length_range]; exact Nat.le_refl _) (fun j H hj _ => by rw [List.length_range] at hj; exact hj) ?_ hN⟩
    rintro i b H x H' hb ex ⟨rfl, rfl⟩
    have hbm : b ∈ List.range (n a - lo a).toNat := List.mem_of_getElem? hb
    have hib : i < (n a - lo a).toNat := by
      have := (List.getElem?_eq_some_iff.mp hb).1
      rwa [List.length_range] at this
    have : b = i := by
      rw [List.getElem?_range hib] at hb
      exact (Option.some.inj hb).symm
    subst this
    exact ⟨rfl, fun Q q => he a ha b hbm _ _ (((e2.setNo j1).set (.int _) rfl).ext ex) Q q⟩
/-! over lists that stand apart -/
theorem ef_lcC {α : Type} {j : Nat} (c : α → Y.D) {ts : List α} (g : α → Y.D) (h : EC K B H0 Z tc E (.lst (ts.map c))) (hz : ts.length < 100000)
    (he : ∀ a ∈ ts, EP K B H0 Z te ((E.set j .no).set j (.val (c a))) (g a)) (im : ∀ a ∈ ts, (g a).im = true) :
    EF K B H0 Z (tLc (iList K tc) (gName j) tYes te [j]) E (ts.map g) := fun σ H e Q q =>
  h σ H e _ fun v H1 e1 h1 => by
    have e' := e.ext e1
    cases h1 with
    | lst hq ha =>
      rename_i r xs
      have hq := sqL_ex (hid_le _ _) hq
      have hl : xs.length = ts.length := by rw [ha.length, List.length_map]
      refine ⟨r, rfl, ⟨xs, hq⟩, fun p np => ?_⟩
      refine lc_list (xs := xs) (fun i H' => Lcw K H1 p ((ts.take i).map g) H') ⟨np, Ex.new np, [], upd_same, by simpa using IsAll.nil⟩ (fun i H' _ w => sqL_ex w.ex hq) (fun i x H' hx w => ⟨wipe1 σ j _, ?_⟩) (fun H' w => ?_)
      · obtain ⟨d, hd1, hd2⟩ := ha.get hx
        obtain ⟨a, ha1, rfl⟩ := map_at hd1
        have hdm : a ∈ ts := List.mem_of_getElem? ha1
        have hd3 : Is K (hid (ows (E.set j .no)) H1) x (c a) := hd2.mono (hid_sub (ows_sub fun p l z => by cases z))
        have eb : Env K B H0 Z ((E.set j .no).set j (.val (c a))) ((wipe σ [j]).set j (some x)) H1 := (e'.setNo j).setC hd3
        show te _ _ _
        refine he a hdm _ _ (eb.ext w.ex) _ fun y H4 e4 hy => ?_
        obtain ⟨acc, a1, a2, a3⟩ := lcw_add w e4 hy (im a hdm)
        refine ⟨acc, a1, by rw [a2, List.length_map, List.length_take, sizeLine_eq]; omega, ?_⟩
        rw [take_step ha1, List.map_append]
        exact a3
      · obtain ⟨acc, w1, w2⟩ := w.at_
        rw [hl, List.take_length] at w2
        exact q p acc H' (e1.back np) (e1.trans w.ex) w1 (w2.mono (hid_le _ _))
/-- isinstance(x, C), x of a built-in class -/
structure NotI (K : PySem.W.Frag) (C : Addr) : Prop where
  hd : PySem.W.hasDictIn K C = true
  ty : PySem.W.typeIn K (.ref C) = some (.type "type")
theorem NotI.one {C : Addr} (n : NotI K C) {ty : String} (h : ty ∈ ["NoneType", "bool", "int", "str", "tuple", "list"]) : PySem.W.kitOne K (.type ty) (.ref C) = some false := by
  obtain ⟨cd, hc, _⟩ := PySem.W.any_some n.hd
  unfold PySem.W.kitOne
  rw [if_neg (by simp)]
  unfold PySem.W.kitCls
  show (if ((PySem.W.clsIn K C).isSome && PySem.W.typeIn K (.ref C) == some (.type "type")) = true then PySem.W.subIn K (.type ty) (.ref C) else none) = _
  rw [hc, n.ty, if_pos (by simp)]
  simp only [List.mem_cons, List.not_mem_nil, or_false] at h
  rcases h with rfl | rfl | rfl | rfl | rfl | rfl <;> rfl
theorem ep_isiN {C : Addr} {ty : String} (n : NotI K C) (h : EP K B H0 Z te E d) (e : d.tyN = some ty) (hm : ty ∈ ["NoneType", "bool", "int", "str", "tuple", "list"]) : EP K B H0 Z (tCB (rIsi K) (tCons te (tCons (tC (.ref C)) tNil))) E (.bl false) := fun σ H en Q q =>
  h σ H en _ fun v H1 e1 h1 => ⟨v, .ref C, .type ty, .ref C, false, rfl, .own C, h1.tyx e, n.one hm, q _ H1 e1 (.bl false)⟩
/-- sorted({e for x in xs}), ints -/
theorem ef_sortSc {w : World} {j : Nat} {ts : List Nat} (f : Nat → Nat) (h : EP K B H0 Z tc E (.tup (ts.map iD))) (hz : ts.length < 62) (he : ∀ a ∈ ts, EP K B H0 Z te ((E.set j .no).set j (.val (iD a))) (iD (f a))) :
    EF K B H0 Z (tCB (rSortedSet w) (tCons (tScI w (iTup K tc) (gName j) tYes te [j]) tNil)) E ((KM.img (ts.map f)).map iD) := fun σ H e Q q =>
  h σ H e _ fun v H1 e1 h1 => by
    have e' := e.ext e1
    cases h1 with
    | tup hq ha =>
      rename_i r xs
      have hl : xs.length = ts.length := by rw [ha.length, List.length_map]
      refine ⟨r, rfl, ⟨xs, hq⟩, fun p np => ?_⟩
      let Sx : Nat → Int → Bool := fun i k => decide (∃ a ∈ ts.take i, ((f a : Nat) : Int) = k)
      refine ⟨fun i m H' => m = ts.length - i ∧ i ≤ ts.length ∧ H1 p = none ∧ Ex H1 H' ∧ ∃ S n, H' p = some (SetO w p S n) ∧ (∀ k, S k = Sx i k) ∧ n = (KM.ded ((ts.take i).map f)).length, ⟨_, rfl, Nat.zero_le _, np, Ex.new np, _, _, upd_same, fun k => by simp [Sx], rfl⟩, ?_⟩
      rintro i m H' ⟨rfl, hi, _, ex, S, n, hp, hS, hn⟩
      by_cases hlt : i < ts.length
      · refine .inr ⟨⟨xs, xs[i]'(by omega), sqT_ex ex hq, by simp [hl, hlt]⟩, fun H' => H1 p = none ∧ Ex H1 H' ∧ ∃ S n, H' p = some (SetO w p S n) ∧ (∀ k, S k = Sx (i + 1) k) ∧ n = (KM.ded ((ts.take (i + 1)).map f)).length, fun H' w' => ⟨ts.length - (i + 1), by omega, rfl, hlt, w'⟩, ?_⟩
        rintro x H'' ⟨rfl, hx⟩
        have hx := hx xs (sqT_ex ex hq)
        obtain ⟨d, hd1, hd2⟩ := ha.get hx
        obtain ⟨a, ha1, rfl⟩ := map_at hd1
        have ham : a ∈ ts := List.mem_of_getElem? ha1
        refine ⟨wipe1 σ j _, ?_⟩
        show te _ _ _
        have eb : Env K B H0 Z ((E.set j .no).set j (.val (iD a))) ((wipe σ [j]).set j (some x)) H1 := (e'.setNo j).set hd2 rfl
        refine he a ham _ _ (eb.ext ex) _ fun y H4 e4 hy => ?_
        cases hy
        have hmem : (S ((f a : Nat) : Int) = true) ↔ f a ∈ (ts.take i).map f := by
          rw [hS, List.mem_map]
          simp only [Sx, decide_eq_true_iff]
          constructor
          · rintro ⟨b, h1, h2⟩; exact ⟨b, h1, by omega⟩
          · rintro ⟨b, h1, h2⟩; exact ⟨b, h1, by omega⟩
        have hd : KM.ded ((ts.take (i + 1)).map f) = KM.dedS (KM.ded ((ts.take i).map f)) (f a) := by
          rw [take_step ha1, List.map_append]
          unfold KM.ded
          rw [List.foldl_append]
          rfl
        have hn' : n ≤ ts.length := by
          have := KM.ded_len ((ts.take i).map f)
          rw [List.length_map, List.length_take] at this
          omega
        refine ⟨(f a : Nat), S, n, rfl, e4 _ _ hp, by unfold PySem.scanBound; omega, np, fun b o z => ?_, _, _, upd_same, fun k => ?_, ?_⟩
        · rw [upd_ne (ne_of_none z np)]
          exact e4 _ _ (ex _ _ z)
        · simp only [hS, Sx]
          rw [take_step ha1, Bool.eq_iff_iff, Bool.or_eq_true, decide_eq_true_iff, decide_eq_true_iff, decide_eq_true_iff]
          constructor
          · rintro (⟨b, h1, h2⟩ | h)
            · exact ⟨b, List.mem_append_left _ h1, h2⟩
            · exact ⟨a, by simp, h.symm⟩
          · rintro ⟨b, h1, h2⟩
            rcases List.mem_append.mp h1 with h1 | h1
            · exact .inl ⟨b, h1, h2⟩
            · simp at h1; rw [h1] at h2; exact .inr h2.symm
        · rw [hd]
          unfold KM.dedS
          by_cases hm : f a ∈ (ts.take i).map f
          · rw [if_pos (hmem.mpr hm), if_pos (KM.ded_mem.mpr hm), hn]
          · rw [if_neg (fun z => hm (hmem.mp z)), if_neg (fun z => hm (KM.ded_mem.mp z)), hn]
            simp
      · have : i = ts.length := by omega
        subst this
        refine .inl ⟨⟨xs, sqT_ex ex hq, by omega⟩, ?_⟩
        have hn' : n ≤ ts.length := by
          have := KM.ded_len ((ts.take ts.length).map f)
          rw [List.length_map, List.length_take] at this
          omega
        refine ⟨p, S, n, rfl, hp, by omega, fun ns p' hs hm _ np' => ?_⟩
        have e0 : ns = (KM.img (ts.map f)).map fun (a : Nat) => ((a : Nat) : Int) := by
          have lt2 : ((KM.img (ts.map f)).map fun (a : Nat) => ((a : Nat) : Int)).Pairwise (· < ·) := List.pairwise_map.mpr ((KM.img_asc _).imp fun h => by omega)
          refine KM.ext_of_pairwise (r := (· < ·)) (fun a => Int.lt_irrefl a) (fun a b h k => by omega) hs lt2 fun k => ?_
          rw [hm k, hS k, List.mem_map]
          simp only [Sx, decide_eq_true_iff, List.take_length]
          constructor
          · rintro ⟨b, h1, h2⟩
            exact ⟨f b, KM.mem_img.mpr (List.mem_map.mpr ⟨b, h1, rfl⟩), h2⟩
          · rintro ⟨z, h1, h2⟩
            obtain ⟨b, h3, h4⟩ := List.mem_map.mp (KM.mem_img.mp h1)
            exact ⟨b, h3, by rw [h4]; exact h2⟩
        have ex2 : Ex H (upd H' p' (.lst (ns.map V.int))) := (e1.trans ex).trans (Ex.new np')
        refine q p' (ns.map V.int) _ ((e1.trans ex).back np') ex2 upd_same ?_
        have : ((KM.img (ts.map f)).map iD) = ns.map D.int := by rw [e0, List.map_map]; rfl
        rw [this]
        exact isAll_ints ns
end
end Y
set_option Elab.async false
set_option linter.all false
set_option autoImplicit false
set_option maxRecDepth 100000
set_option maxHeartbeats 4000000
namespace Y
open PySem L2
def topS (i : Nat) : Stmt := PySem.Challenge.pw_shortbynarrow_k07_merged_and_renamed.main.body.getD i (.Pass ⟨0, 0, 0, 0⟩)
/-- the built-in names are the built-ins' -/
structure Txt (mg : Str → Option Value) : Prop where
  len : mg "len" = none
  sum : mg "sum" = none
  all : mg "all" = none
  any : mg "any" = none
  sorted : mg "sorted" = none
  tuple : mg "tuple" = none
  list : mg "list" = none
  int : mg "int" = none
  bool : mg "bool" = none
  range : mg "range" = none
  isinstance : mg "isinstance" = none
  min : mg "min" = none
  max : mg "max" = none
/-- a set of things as it is held: small numbers, few -/
structure Sm (l : List Nat) : Prop where
  lt : ∀ x ∈ l, x < 1000
  len : l.length < 1000
theorem at_c {α : Type} {c : α → D} {E : List Slot} {i : Nat} {d : D} {l : List α} (h : E[i]? = some (.val d)) (e : d = .tup (l.map c)) : E[i]? = some (.val (.tup (l.map c))) := by rw [h, e]
section
variable {P : Program} {w : World} {K : PySem.W.Frag} {mg : Str → Option Value} {base : Heap}
/-! mask_of -/
abbrev s_mask_of : Stmt := topS 20
abbrev N_mask_of : List Str := ["things", "e"]
theorem sc_mask_of : FnScope N_mask_of ["things"] (defScope s_mask_of) := ⟨rfl, rfl, rfl, by decide +kernel, rfl, by decide +kernel, by decide +kernel⟩
def p_mask_of (ds : List D) (d : D) : Prop := ∃ l : List Nat, Sm l ∧ ds = [tD l] ∧ d = iD (KM.maskOf l)
theorem sum_cast : ∀ (l : List Nat), ((l.map fun (e : Nat) => ((2 ^ e : Nat) : Int))).sum = ((KM.maskOf l : Nat) : Int)
  | [] => rfl
  | a :: l => by
    have := sum_cast l
    rw [List.map_cons, List.sum_cons, this]
    simp [KM.maskOf]
theorem ok_mask_of {f : Addr} {fd : FuncData} (F : Fun K "mask_of" "mask_of" s_mask_of f fd) (T : Txt mg) : FnOk P w K mg base CX0 1 f fd ["things"] (Pure K p_mask_of) := by
  refine pure_ok F sc_mask_of (fun ds d h => by obtain ⟨l, _, rfl, _⟩ := h; rfl) (by decide) fun cdv A outer s H E hr => ?_
  refine ⟨_, (pss_one (ps_ret (pe_callB (cr_sum rfl) (by rfl) T.sum (by decide +kernel) (pa_cons (pe_lc (own := [("e", 1)]) (g := gName 1) rfl sc_mask_of.nd (pi_tup (pv 0)) (blkOk_by (N := N_mask_of) (sc := defScope s_mask_of) (by decide +kernel)) (fun _ _ _ _ _ => pg_name (i := 1) sc_mask_of.nd rfl (Or.inl rfl)) (fun _ _ _ _ _ => pts_nil) (fun _ _ _ _ _ => (pe_op op_shlW pe_int (pv 1)))) pa_nil)))), ?_⟩
  rintro ds d ⟨l, hl, rfl, rfl⟩ De o
  refine sd_ret (d := iD (KM.maskOf l)) (ep_cb (ea_cons (EF.p (ef_lcT1 (c := iD) (ts := l) (fun n => iD (2 ^ n)) (ep_var (at_c rfl (tD_eq l))) (fun _ _ => rfl) (by have := hl.len; omega) (fun n hn => ep_op ep_int (ep_var rfl) (r2_shl1 (by have := hl.lt n hn; omega))) (fun _ _ => rfl))) ea_nil) ?_) o.rt
  have h := rc_sum (K := K) (ns := l.map fun (e : Nat) => ((2 ^ e : Nat) : Int))
  rw [List.map_map, sum_cast] at h
  exact h
/-! things_of -/
abbrev s_things_of : Stmt := topS 21
abbrev N_things_of : List Str := ["mask", "e"]
theorem sc_things_of : FnScope N_things_of ["mask"] (defScope s_things_of) := ⟨rfl, rfl, rfl, by decide +kernel, rfl, by decide +kernel, by decide +kernel⟩
def p_things_of (ds : List D) (d : D) : Prop := ∃ m : Nat, m < 2 ^ 1000 ∧ ds = [iD m] ∧ d = tD (KM.thingsOf m)
theorem bitLen_lt {m : Nat} (h : m < 2 ^ 1000) : KM.bitLen m ≤ 1000 := by
  unfold KM.bitLen
  split
  · omega
  · rename_i h0
    have := (Nat.log2_lt h0).mpr h
    omega
theorem bit_test (m e : Nat) : ((m >>> e) &&& 1 == 1) = m.testBit e := by
  rw [Nat.testBit_eq_decide_div_mod_eq, Nat.and_one_is_mod, Nat.shiftRight_eq_div_pow]
  rfl
theorem ok_things_of {f : Addr} {fd : FuncData} (F : Fun K "things_of" "things_of" s_things_of f fd) (T : Txt mg) : FnOk P w K mg base CX0 1 f fd ["mask"] (Pure K p_things_of) := by
  refine pure_ok F sc_things_of (fun ds d h => by obtain ⟨l, _, rfl, _⟩ := h; rfl) (by decide) fun cdv A outer s H E hr => ?_
  refine ⟨_, (pss_one (ps_ret (pe_callTy call_tuple_of (by rfl) T.tuple (by decide +kernel) (pa_cons (pe_lc (own := [("e", 1)]) (g := gName 1) rfl sc_things_of.nd (pi_range1 (by rfl) T.range (pa_cons (pe_bits (pv 0)) pa_nil)) (blkOk_by (N := N_things_of) (sc := defScope s_things_of) (by decide +kernel)) (fun _ _ _ _ _ => pg_name (i := 1) sc_things_of.nd rfl (Or.inl rfl)) (fun _ _ _ _ _ => (pts_one (pt_cmpR op_eq (pe_op op_and (pe_op op_shr (pv 0) (pv 1)) pe_int) pe_int (nomark _)))) (fun _ _ _ _ _ => (pv 1))) pa_nil)))), ?_⟩
  rintro ds d ⟨m, hm, rfl, rfl⟩ De o
  have hb := bitLen_lt hm
  refine sd_ret (ep_is (ep_cb (ea_cons (EF.p (ef_lcR (fun e => m.testBit e) iD (ea_cons (ep_bits (ep_var rfl)) ea_nil) (by omega)
    (fun e _ => et_is (et_test (ep_op (ep_op (ep_op (ep_var rfl) (ep_var rfl) r2_shr) ep_n1 r2_and) ep_n1 r2_eqN)) (bit_test m e)) (fun e _ _ => ep_var rfl) (fun _ _ _ => rfl))) ea_nil) rc_tupleL) ?_) o.rt
  rw [tD_eq]
  rfl
/-! least_masks -/
abbrev s_least_masks : Stmt := topS 22
abbrev N_least_masks : List Str := ["masks", "kept", "mask", "one"]
theorem sc_least_masks : FnScope N_least_masks ["masks"] (defScope s_least_masks) := ⟨rfl, rfl, rfl, by decide +kernel, rfl, by decide +kernel, by decide +kernel⟩
def p_least_masks (ds : List D) (l : List D) : Prop := ∃ ms : List Nat, ms.length < 1000 ∧ ds = [nD ms] ∧ l = (KM.leastMasks ms).map iD
theorem leastStep_len (k : List Nat) (m : Nat) : (KM.leastStep k m).length ≤ k.length + 1 := by
  unfold KM.leastStep
  split <;> simp
theorem fold_len {α β : Type} (f : List β → α → List β) (n : Nat) (hf : ∀ k m, (f k m).length ≤ k.length + n) : ∀ (l : List α) (k : List β), (l.foldl f k).length ≤ k.length + n * l.length
  | [], k => by simp
  | m :: l, k => by
    have h1 := fold_len f n hf l (f k m)
    have h2 := hf k m
    rw [List.foldl_cons, List.length_cons, Nat.mul_succ]
    omega
theorem ok_least_masks {f : Addr} {fd : FuncData} (F : Fun K "least_masks" "least_masks" s_least_masks f fd) (T : Txt mg) : FnOk P w K mg base CX0 1 f fd ["masks"] (Fresh K p_least_masks) := by
  refine fresh_ok F sc_least_masks (fun ds d h => by obtain ⟨l, _, rfl, _⟩ := h; rfl) (by decide) fun cdv A outer s H E hr => ?_
  refine ⟨_, (pss_cons (ps_set (i := 1) sc_least_masks.nd rfl (Or.inl rfl) (pe_lst pa_nil))
    (pss_cons (ps_for PassesOwn.never rfl (pi_list (pe_callB cr_sortedI (by rfl) T.sorted (by decide +kernel) (pa_cons (pv 0) pa_nil))) (pg_name (i := 2) sc_least_masks.nd rfl (Or.inr rfl))
    (pss_one (ps_if (pt_val (pe_callB (cr_all rfl) (by rfl) T.all (by decide +kernel) (pa_cons (pe_lc (own := [("one", 3)]) (g := gName 3) rfl sc_least_masks.nd (pi_list (pv 1)) (blkOk_by (N := N_least_masks) (sc := defScope s_least_masks) (by decide +kernel)) (fun _ _ _ _ _ => pg_name (i := 3) sc_least_masks.nd rfl (Or.inl rfl)) (fun _ _ _ _ _ => pts_nil) (fun _ _ _ _ _ => (pe_cmpR op_ne (pe_op op_and (pv 3) (pv 2)) (pv 3) (nomark _)))) pa_nil))) (pss_one (ps_expr (pe_bm PySem.F.plainAttrs_list PySem.F.slot_list_append PySem.F.type_list_append mt_append (pv 1) (pa_cons (pv 2) pa_nil)))) pss_nil)))
    (pss_one (ps_ret (pv 1))))), ?_⟩
  rintro ds d ⟨ms, hz, rfl, rfl⟩ De o
  refine sd_seq (sd_asgO (ef_lst ea_nil) rfl fun p => sd_go ?_)
  have hl : ∀ i, (((KM.sortN ms).take i).foldl KM.leastStep []).length < 1000 := fun i => by
    have h1 := fold_len KM.leastStep 1 leastStep_len ((KM.sortN ms).take i) []
    have h2 : ((KM.sortN ms).take i).length ≤ ms.length := by rw [List.length_take, (KM.sortN_perm ms).length_eq]; omega
    rw [List.length_nil] at h1
    omega
  refine sd_seq (sd_forL (c := iD) (ts := KM.sortN ms) (ec_new (ef_cb (ea_cons (ep_var rfl) ea_nil) rf_sortedN) (imAll_nD _)) (fun i => [.val (nD ms), .own p ((((KM.sortN ms).take i).foldl KM.leastStep []).map iD), .no, .no]) rfl (fun Z' i m hm => ?_) (sd_go ?_))
  · rw [KM.fold_take _ _ hm]
    have hli := hl i
    generalize ((KM.sortN ms).take i).foldl KM.leastStep [] = kept at hli
    refine sd_if (et_B (ep_cb (ea_cons (EF.p (ef_lcL1 (c := iD) (ts := kept) (fun one => .bl (one &&& m != one)) (ep_own rfl) (fun _ _ => rfl) (by omega) (fun one _ => ep_op (ep_op (ep_var rfl) (ep_var rfl) r2_and) (ep_var rfl) r2_neN) (fun _ _ => rfl))) ea_nil) rc_allL)) (fun h => ?_) (fun h => ?_)
    · refine sd_app rfl (ep_var rfl) rfl (by rw [List.length_map]; omega) (sd_leF ?_)
      show LeE [_, _, _, _] [_, _, _, _]
      unfold KM.leastStep
      rw [if_pos h, List.map_append]
      exact .eq (.eq (.no (.no .nil)))
    · refine sd_leF ?_
      show LeE [_, _, _, _] [_, _, _, _]
      unfold KM.leastStep
      rw [if_neg (by rw [h]; decide)]
      exact .eq (.eq (.no (.no .nil)))
  · rw [List.take_length]
    exact sd_retO rfl o.rt
/-! lots_of_masks -/
abbrev s_lots_of_masks : Stmt := topS 23
abbrev N_lots_of_masks : List Str := ["masks", "mask"]
theorem sc_lots_of_masks : FnScope N_lots_of_masks ["masks"] (defScope s_lots_of_masks) := ⟨rfl, rfl, rfl, by decide +kernel, rfl, by decide +kernel, by decide +kernel⟩
def p_lots_of_masks (ds : List D) (d : D) : Prop := ∃ ms : List Nat, ms.length < 1000 ∧ (∀ m ∈ ms, m < 2 ^ 1000) ∧ (ms.length ≤ 1 ∨ ∀ m ∈ ms, m ≠ 0) ∧ ds = [nD ms] ∧ d = tsD (KM.lotsOfMasks ms)
theorem things_ne {m : Nat} (h : m ≠ 0) : KM.thingsOf m ≠ [] := fun e => h (by
  have := KM.mask_things m
  rw [e] at this
  exact this.symm)
theorem ok_lots_of_masks {f : Addr} {fd : FuncData} (F : Fun K "lots_of_masks" "lots_of_masks" s_lots_of_masks f fd) (T : Txt mg) (c_things_of : Cl P w K mg base 1 "things_of" (Pure K p_things_of)) : FnOk P w K mg base CX0 2 f fd ["masks"] (Pure K p_lots_of_masks) := by
  refine pure_ok F sc_lots_of_masks (fun ds d h => by obtain ⟨l, _, _, _, rfl, _⟩ := h; rfl) (by decide) fun cdv A outer s H E hr => ?_
  have hu := hr.units
  refine ⟨_, (pss_one (ps_ret (pe_callTy call_tuple_of (by rfl) T.tuple (by decide +kernel) (pa_cons (pe_callB (cr_sortY hu) (by rfl) T.sorted (by decide +kernel) (pa_cons (pe_lc (own := [("mask", 1)]) (g := gName 1) rfl sc_lots_of_masks.nd (pi_list (pv 0)) (blkOk_by (N := N_lots_of_masks) (sc := defScope s_lots_of_masks) (by decide +kernel)) (fun _ _ _ _ _ => pg_name (i := 1) sc_lots_of_masks.nd rfl (Or.inl rfl)) (fun _ _ _ _ _ => pts_nil) (fun _ _ _ _ _ => (pe_cl c_things_of hr (by decide) (by rfl) (pa_cons (pv 1) pa_nil)))) pa_nil)) pa_nil)))), ?_⟩
  rintro ds d ⟨ms, hz, hm, h0, rfl, rfl⟩ De o
  have hs : ((ms.map KM.thingsOf).length ≤ 1 ∨ ∀ t ∈ ms.map KM.thingsOf, t ≠ []) := by
    rcases h0 with h0 | h0
    · exact .inl (by rw [List.length_map]; exact h0)
    · refine .inr fun t ht => ?_
      obtain ⟨m, hm', rfl⟩ := List.mem_map.mp ht
      exact things_ne (h0 m hm')
  have e0 : EF K [] H (fun _ => True) (tLc (iList K (tVar 0)) (gName 1) tYes (tCall (Pure K p_things_of) [] E0 (tCons (tVar 1) tNil)) [1]) (entry N_lots_of_masks [nD ms]) ((ms.map KM.thingsOf).map tD) := by
    rw [List.map_map]
    exact ef_lcL1 (c := iD) (ts := ms) (fun m => tD (KM.thingsOf m)) (ep_var rfl) (fun _ _ => rfl) (by omega) (fun m hm' => ep_call (ea_cons (ep_var rfl) ea_nil) ⟨m, hm m hm', rfl, rfl⟩) (fun _ _ => tD_im _)
  exact sd_ret (ep_cb (ea_cons (EF.p (ef_cb (ea_cons (EF.p e0) ea_nil) (rf_sortY hs))) ea_nil) rc_tupleL) o.rt
/-! least_lots -/
abbrev s_least_lots : Stmt := topS 24
abbrev N_least_lots : List Str := ["lots", "lot"]
theorem sc_least_lots : FnScope N_least_lots ["lots"] (defScope s_least_lots) := ⟨rfl, rfl, rfl, by decide +kernel, rfl, by decide +kernel, by decide +kernel⟩
/-- lots as they are held -/
structure Lots (ls : List (List Nat)) : Prop where
  len : ls.length < 1000
  sm : ∀ l ∈ ls, Sm l
  asc : ∀ l ∈ ls, KM.Asc l
  ne : ∀ l ∈ ls, l ≠ []
def p_least_lots (ds : List D) (d : D) : Prop := ∃ ls : List (List Nat), Lots ls ∧ ds = [lsD ls] ∧ d = tsD (KM.leastLots ls)
theorem mask_lt {l : List Nat} (a : KM.Asc l) (h : Sm l) : KM.maskOf l < 2 ^ 1000 := by
  apply Nat.lt_pow_two_of_testBit
  intro i hi
  rw [KM.mask_bit a]
  simp only [decide_eq_false_iff_not]
  intro hm
  have := h.lt i hm
  omega
theorem mask_ne {l : List Nat} (a : KM.Asc l) (h : l ≠ []) : KM.maskOf l ≠ 0 := fun e => by
  have := KM.things_mask a
  rw [e] at this
  exact h this.symm
theorem leastMasks_sub {ms : List Nat} : ∀ m ∈ KM.leastMasks ms, m ∈ ms := by
  have key : ∀ (r k : List Nat), (∀ m ∈ r.foldl KM.leastStep k, m ∈ k ∨ m ∈ r) := by
    intro r
    induction r with
    | nil => intro k m h; exact .inl h
    | cons a r ih =>
      intro k m h
      rw [List.foldl_cons] at h
      rcases ih _ m h with h | h
      · unfold KM.leastStep at h
        split at h
        · rcases List.mem_append.mp h with h | h
          · exact .inl h
          · exact .inr (by simp at h; rw [h]; exact List.mem_cons_self)
        · exact .inl h
      · exact .inr (List.mem_cons_of_mem _ h)
  intro m h
  rcases key _ _ m h with h | h
  · cases h
  · exact (KM.sortN_perm ms).mem_iff.mp h
theorem leastMasks_len (ms : List Nat) : (KM.leastMasks ms).length ≤ ms.length := by
  have h1 := fold_len KM.leastStep 1 leastStep_len (KM.sortN ms) []
  rw [(KM.sortN_perm ms).length_eq, List.length_nil] at h1
  unfold KM.leastMasks
  omega
theorem ok_least_lots {f : Addr} {fd : FuncData} (F : Fun K "least_lots" "least_lots" s_least_lots f fd) (T : Txt mg) (c_mask_of : Cl P w K mg base 1 "mask_of" (Pure K p_mask_of)) (c_least_masks : Cl P w K mg base 1 "least_masks" (Fresh K p_least_masks))
    (c_lots_of_masks : Cl P w K mg base 2 "lots_of_masks" (Pure K p_lots_of_masks)) : FnOk P w K mg base CX0 3 f fd ["lots"] (Pure K p_least_lots) := by
  refine pure_ok F sc_least_lots (fun ds d h => by obtain ⟨l, _, rfl, _⟩ := h; rfl) (by decide) fun cdv A outer s H E hr => ?_
  refine ⟨_, (pss_one (ps_ret (pe_cl c_lots_of_masks hr (by decide) (by rfl) (pa_cons (pe_cl c_least_masks hr (by decide) (by rfl) (pa_cons (pe_lc (own := [("lot", 1)]) (g := gName 1) rfl sc_least_lots.nd (pi_list (pv 0)) (blkOk_by (N := N_least_lots) (sc := defScope s_least_lots) (by decide +kernel)) (fun _ _ _ _ _ => pg_name (i := 1) sc_least_lots.nd rfl (Or.inl rfl)) (fun _ _ _ _ _ => pts_nil) (fun _ _ _ _ _ => (pe_cl c_mask_of hr (by decide) (by rfl) (pa_cons (pv 1) pa_nil)))) pa_nil)) pa_nil)))), ?_⟩
  rintro ds d ⟨ls, hL, rfl, rfl⟩ De o
  have hz := hL.len
  have e0 : EF K [] H (fun _ => True) (tLc (iList K (tVar 0)) (gName 1) tYes (tCall (Pure K p_mask_of) [] E0 (tCons (tVar 1) tNil)) [1]) (entry N_least_lots [lsD ls]) ((ls.map KM.maskOf).map iD) := by
    rw [List.map_map]
    exact ef_lcL1 (c := tD) (ts := ls) (fun l => iD (KM.maskOf l)) (ep_var rfl) (fun _ _ => tD_im _) (by omega) (fun l hl => ep_call (ea_cons (ep_var rfl) ea_nil) ⟨l, hL.sm l hl, rfl, rfl⟩) (fun _ _ => rfl)
  refine sd_ret (ep_call (ea_cons (EF.p (ef_call (ea_cons (EF.p e0) ea_nil) ⟨ls.map KM.maskOf, by rw [List.length_map]; exact hz, rfl, rfl⟩)) ea_nil) ⟨KM.leastMasks (ls.map KM.maskOf), ?_, fun m hm => ?_, .inr fun m hm => ?_, rfl, rfl⟩) o.rt
  · have := leastMasks_len (ls.map KM.maskOf)
    rw [List.length_map] at this
    omega
  · obtain ⟨l, hl, rfl⟩ := List.mem_map.mp (leastMasks_sub m hm)
    exact mask_lt (hL.asc l hl) (hL.sm l hl)
  · obtain ⟨l, hl, rfl⟩ := List.mem_map.mp (leastMasks_sub m hm)
    exact mask_ne (hL.asc l hl) (hL.ne l hl)
end
end Y
set_option Elab.async false
set_option linter.all false
set_option autoImplicit false
set_option maxRecDepth 100000
set_option maxHeartbeats 4000000
namespace Y
open PySem L2
section
variable {P : Program} {w : World} {K : PySem.W.Frag} {mg : Str → Option Value} {base : Heap}
/-! blocker_lots -/
abbrev s_blocker_lots : Stmt := topS 25
abbrev N_blocker_lots : List Str := ["lots", "kept", "lot", "mask", "met", "one", "missed", "grown", "e", "near", "wide", "two"]
theorem sc_blocker_lots : FnScope N_blocker_lots ["lots"] (defScope s_blocker_lots) := ⟨rfl, rfl, rfl, by decide +kernel, rfl, by decide +kernel, by decide +kernel⟩
def keptAt (ls : List (List Nat)) (i : Nat) : List Nat := (ls.take i).foldl KM.blkStep [0]
def p_blocker_lots (ds : List D) (d : D) : Prop := ∃ ls : List (List Nat), Lots ls ∧ (∀ i, (keptAt ls i).length < 1000) ∧ ds = [tsD ls] ∧ d = tsD (KM.blockerLots ls)
def grow1 (met : List Nat) (mask e : Nat) (g : List Nat) (one : Nat) : List Nat := if (met.filter (fun t => t &&& mask == 2 ^ e)).all (fun two => two &&& (one ||| 2 ^ e) != two) then g ++ [one ||| 2 ^ e] else g
theorem grownAt_eq (met missed : List Nat) (mask : Nat) (g : List Nat) (e : Nat) : KM.grownAt met missed mask g e = missed.foldl (grow1 met mask e) g := rfl
theorem grow1_ge (met : List Nat) (mask e : Nat) (g : List Nat) (one : Nat) : g.length ≤ (grow1 met mask e g one).length := by
  unfold grow1
  split <;> simp
theorem fold_ge {α β : Type} (f : List β → α → List β) (hf : ∀ k m, k.length ≤ (f k m).length) : ∀ (l : List α) (k : List β), k.length ≤ (l.foldl f k).length
  | [], k => Nat.le_refl _
  | m :: l, k => Nat.le_trans (hf k m) (fold_ge f hf l (f k m))
theorem fold_part {α β : Type} (f : List β → α → List β) (hf : ∀ k m, k.length ≤ (f k m).length) (l : List α) (k : List β) (i : Nat) : ((l.take i).foldl f k).length ≤ (l.foldl f k).length := by
  have e : l = l.take i ++ l.drop i := (List.take_append_drop i l).symm
  have h := fold_ge f hf (l.drop i) ((l.take i).foldl f k)
  rw [← List.foldl_append, List.take_append_drop] at h
  exact h
theorem grown_ge (met missed : List Nat) (mask : Nat) (g : List Nat) (e : Nat) : g.length ≤ (KM.grownAt met missed mask g e).length := fold_ge _ (fun k m => grow1_ge met mask e k m) _ _
/-- all masks are small -/
theorem kept_lt {ls : List (List Nat)} (hL : ∀ l ∈ ls, Sm l) : ∀ m ∈ ls.foldl KM.blkStep [0], m < 2 ^ 1000 := by
  have g1 : ∀ (met missed : List Nat) (mask e : Nat), e < 1000 → (∀ m ∈ missed, m < 2 ^ 1000) → ∀ g : List Nat, (∀ m ∈ g, m < 2 ^ 1000) → ∀ m ∈ KM.grownAt met missed mask g e, m < 2 ^ 1000 := by
    intro met missed mask e he
    induction missed with
    | nil => intro _ g hg; exact hg
    | cons a r ih =>
      intro hm g hg
      refine ih (fun m h => hm m (List.mem_cons_of_mem _ h)) (grow1 met mask e g a) fun m h => ?_
      unfold grow1 at h
      split at h
      · rcases List.mem_append.mp h with h | h
        · exact hg m h
        · have : m = a ||| 2 ^ e := by simpa using h
          rw [this]
          exact Nat.or_lt_two_pow (hm a List.mem_cons_self) (Nat.pow_lt_pow_right (by omega) he)
      · exact hg m h
  have g2 : ∀ (lot : List Nat) (met missed : List Nat) (mask : Nat), (∀ x ∈ lot, x < 1000) → (∀ m ∈ missed, m < 2 ^ 1000) → ∀ g : List Nat, (∀ m ∈ g, m < 2 ^ 1000) → ∀ m ∈ lot.foldl (KM.grownAt met missed mask) g, m < 2 ^ 1000 := by
    intro lot met missed mask
    induction lot with
    | nil => intro _ _ g hg; exact hg
    | cons a r ih =>
      intro h1 h2 g hg
      exact ih (fun x h => h1 x (List.mem_cons_of_mem _ h)) h2 _ (g1 met missed mask a (h1 a List.mem_cons_self) h2 g hg)
  have key : ∀ (ls : List (List Nat)), (∀ l ∈ ls, Sm l) → ∀ k : List Nat, (∀ m ∈ k, m < 2 ^ 1000) → ∀ m ∈ ls.foldl KM.blkStep k, m < 2 ^ 1000 := by
    intro ls
    induction ls with
    | nil => intro _ k hk; exact hk
    | cons a r ih =>
      intro h1 k hk
      refine ih (fun l h => h1 l (List.mem_cons_of_mem _ h)) _ fun m h => ?_
      rcases List.mem_append.mp h with h | h
      · exact hk m (List.mem_filter.mp h).1
      · exact g2 a _ _ _ (h1 a List.mem_cons_self).lt (fun m h => hk m (List.mem_filter.mp h).1) [] (by simp) m h
  exact key ls hL [0] (by simp; exact Nat.two_pow_pos 1000)
theorem step_ne (k : List Nat) (lot : List Nat) : ∀ m ∈ KM.blkStep k lot, m ≠ 0 := by
  have g1 : ∀ (missed met : List Nat) (mask e : Nat) (g : List Nat), (∀ m ∈ g, m ≠ 0) → ∀ m ∈ KM.grownAt met missed mask g e, m ≠ 0 := by
    intro missed met mask e
    induction missed with
    | nil => intro g hg; exact hg
    | cons a r ih =>
      intro g hg
      refine ih (grow1 met mask e g a) fun m h => ?_
      unfold grow1 at h
      split at h
      · rcases List.mem_append.mp h with h | h
        · exact hg m h
        · have : m = a ||| 2 ^ e := by simpa using h
          intro z
          have hb : (a ||| 2 ^ e).testBit e = true := by simp [Nat.testBit_or]
          rw [← this, z] at hb
          simp at hb
      · exact hg m h
  have g2 : ∀ (lot : List Nat) (met missed : List Nat) (mask : Nat) (g : List Nat), (∀ m ∈ g, m ≠ 0) → ∀ m ∈ lot.foldl (KM.grownAt met missed mask) g, m ≠ 0 := by
    intro lot met missed mask
    induction lot with
    | nil => intro g hg; exact hg
    | cons a r ih => intro g hg; exact ih _ (g1 missed met mask a g hg)
  intro m h
  rcases List.mem_append.mp h with h | h
  · intro z
    subst z
    have := (List.mem_filter.mp h).2
    simp at this
  · exact g2 lot _ _ _ [] (by simp) m h
theorem kept_ne {ls : List (List Nat)} (h : ls ≠ []) : ∀ m ∈ ls.foldl KM.blkStep [0], m ≠ 0 := by
  have e : ls = ls.dropLast ++ [ls.getLast h] := (List.dropLast_concat_getLast h).symm
  rw [e, List.foldl_append]
  exact step_ne _ _
theorem ok_blocker_lots {f : Addr} {fd : FuncData} (F : Fun K "blocker_lots" "blocker_lots" s_blocker_lots f fd) (T : Txt mg) (c_mask_of : Cl P w K mg base 1 "mask_of" (Pure K p_mask_of))
    (c_lots_of_masks : Cl P w K mg base 2 "lots_of_masks" (Pure K p_lots_of_masks)) : FnOk P w K mg base CX0 3 f fd ["lots"] (Pure K p_blocker_lots) := by
  refine pure_ok F sc_blocker_lots (fun ds d h => by obtain ⟨l, _, _, rfl, _⟩ := h; rfl) (by decide) fun cdv A outer s H E hr => ?_
  refine ⟨_, (pss_cons (ps_set (i := 1) sc_blocker_lots.nd rfl (Or.inl rfl) (pe_lst (pa_cons pe_int pa_nil)))
    (pss_cons (ps_for PassesOwn.never rfl (pi_tup (pv 0)) (pg_name (i := 2) sc_blocker_lots.nd rfl (Or.inl rfl))
    (pss_cons (ps_set (i := 3) sc_blocker_lots.nd rfl (Or.inr rfl) (pe_cl c_mask_of hr (by decide) (by rfl) (pa_cons (pv 2) pa_nil)))
    (pss_cons (ps_setLc (i := 4) (own := [("one", 5)]) (g := gName 5) rfl sc_blocker_lots.nd rfl rfl (sw_true rfl rfl rfl (by decide +kernel)) (pi_list (pv 1)) (blkOk_by (N := N_blocker_lots) (sc := defScope s_blocker_lots) (by decide +kernel)) (fun _ _ _ _ _ => pg_name (i := 5) sc_blocker_lots.nd rfl (Or.inl rfl)) (fun _ _ _ _ _ => (pts_one (pt_cmpR op_ne (pe_op op_and (pv 5) (pv 3)) pe_int (nomark _)))) (fun _ _ _ _ _ => (pv 5)))
    (pss_cons (ps_setLc (i := 6) (own := [("one", 5)]) (g := gName 5) rfl sc_blocker_lots.nd rfl rfl (sw_true rfl rfl rfl (by decide +kernel)) (pi_list (pv 1)) (blkOk_by (N := N_blocker_lots) (sc := defScope s_blocker_lots) (by decide +kernel)) (fun _ _ _ _ _ => pg_name (i := 5) sc_blocker_lots.nd rfl (Or.inl rfl)) (fun _ _ _ _ _ => (pts_one (pt_cmpR op_eq (pe_op op_and (pv 5) (pv 3)) pe_int (nomark _)))) (fun _ _ _ _ _ => (pv 5)))
    (pss_cons (ps_set (i := 7) sc_blocker_lots.nd rfl (Or.inl rfl) (pe_lst pa_nil))
    (pss_cons (ps_for PassesOwn.never rfl (pi_tup (pv 2)) (pg_name (i := 8) sc_blocker_lots.nd rfl (Or.inr rfl))
    (pss_cons (ps_setLc (i := 9) (own := [("one", 5)]) (g := gName 5) rfl sc_blocker_lots.nd rfl rfl (sw_true rfl rfl rfl (by decide +kernel)) (pi_list (pv 4)) (blkOk_by (N := N_blocker_lots) (sc := defScope s_blocker_lots) (by decide +kernel)) (fun _ _ _ _ _ => pg_name (i := 5) sc_blocker_lots.nd rfl (Or.inl rfl)) (fun _ _ _ _ _ => (pts_one (pt_cmpR op_eq (pe_op op_and (pv 5) (pv 3)) (pe_op op_shlW pe_int (pv 8)) (nomark _)))) (fun _ _ _ _ _ => (pv 5)))
    (pss_one (ps_for PassesOwn.never rfl (pi_list (pv 6)) (pg_name (i := 5) sc_blocker_lots.nd rfl (Or.inl rfl))
    (pss_cons (ps_set (i := 10) sc_blocker_lots.nd rfl (Or.inr rfl) (pe_op op_or (pv 5) (pe_op op_shlW pe_int (pv 8))))
    (pss_one (ps_if (pt_val (pe_callB (cr_all rfl) (by rfl) T.all (by decide +kernel) (pa_cons (pe_lc (own := [("two", 11)]) (g := gName 11) rfl sc_blocker_lots.nd (pi_list (pv 9)) (blkOk_by (N := N_blocker_lots) (sc := defScope s_blocker_lots) (by decide +kernel)) (fun _ _ _ _ _ => pg_name (i := 11) sc_blocker_lots.nd rfl (Or.inl rfl)) (fun _ _ _ _ _ => pts_nil) (fun _ _ _ _ _ => (pe_cmpR op_ne (pe_op op_and (pv 11) (pv 10)) (pv 11) (nomark _)))) pa_nil))) (pss_one (ps_expr (pe_bm PySem.F.plainAttrs_list PySem.F.slot_list_append PySem.F.type_list_append mt_append (pv 7) (pa_cons (pv 10) pa_nil)))) pss_nil)))))))
    (pss_one (ps_set (i := 1) sc_blocker_lots.nd rfl (Or.inl rfl) (pe_op op_cat (pv 4) (pv 7))))))))))
    (pss_one (ps_ret (pe_cl c_lots_of_masks hr (by decide) (by rfl) (pa_cons (pv 1) pa_nil)))))), ?_⟩
  rintro ds d ⟨ls, hL, hk, rfl, rfl⟩ De o
  refine sd_seq (sd_asgL (ef_lst (ea_cons ep_n0 ea_nil)) rfl (sd_go ?_))
  refine sd_seq (sd_forT (c := tD) (ts := ls) (ec_var rfl) (fun i => [.val (tsD ls), .val (nD (keptAt ls i)), .no, .no, .no, .no, .no, .no, .no, .no, .no, .no]) rfl (fun Z' i lot hlot => ?_) (sd_go ?_))
  · have hsm := hL.sm lot (List.mem_of_getElem? hlot)
    have hki := hk i
    have hki1 := hk (i + 1)
    have e1 : keptAt ls (i + 1) = KM.blkStep (keptAt ls i) lot := KM.fold_take _ _ hlot
    rw [e1] at hki1 ⊢
    generalize keptAt ls i = kept at hki hki1
    refine sd_seq (sd_asg (ep_call (ea_cons (ep_var rfl) ea_nil) ⟨lot, hsm, rfl, rfl⟩) rfl (sd_go ?_))
    refine sd_seq (sd_asgO (ef_lcL (c := iD) (ts := kept) (fun one => one &&& KM.maskOf lot != 0) iD (ep_var rfl) (fun _ _ => rfl) (by omega) (fun one _ => et_test (ep_op (ep_op (ep_var rfl) (ep_var rfl) r2_and) ep_n0 r2_neN)) (fun one _ _ => ep_var rfl) (fun _ _ _ => rfl)) (imAll_nD _) fun q => sd_go ?_)
    refine sd_seq (sd_asgL (ef_lcL (c := iD) (ts := kept) (fun one => one &&& KM.maskOf lot == 0) iD (ep_var rfl) (fun _ _ => rfl) (by omega) (fun one _ => et_test (ep_op (ep_op (ep_var rfl) (ep_var rfl) r2_and) ep_n0 r2_eqN)) (fun one _ _ => ep_var rfl) (fun _ _ _ => rfl)) (imAll_nD _) (sd_go ?_))
    have hml : (kept.filter fun one => one &&& KM.maskOf lot != 0).length ≤ kept.length := List.length_filter_le _ _
    have hsl : (kept.filter fun one => one &&& KM.maskOf lot == 0).length ≤ kept.length := List.length_filter_le _ _
    have hgl : (lot.foldl (KM.grownAt (kept.filter fun one => one &&& KM.maskOf lot != 0) (kept.filter fun one => one &&& KM.maskOf lot == 0) (KM.maskOf lot)) []).length < 1000 := by
      have := hki1
      unfold KM.blkStep at this
      rw [List.length_append] at this
      omega
    unfold KM.blkStep
    generalize (kept.filter fun one => one &&& KM.maskOf lot != 0) = met at hml hgl
    generalize (kept.filter fun one => one &&& KM.maskOf lot == 0) = missed at hsl hgl
    refine sd_seq (sd_asgO (ef_lst ea_nil) rfl fun p => sd_go ?_)
    refine sd_seq (sd_forT (c := iD) (ts := lot) (ec_im (ep_var (at_c rfl (tD_eq lot))) (by rw [← tD_eq]; exact tD_im lot)) (fun j => [.val (tsD ls), .val (nD kept), .val (tD lot), .val (iD (KM.maskOf lot)), .own q (met.map iD), .no, .val (nD missed), .own p (((lot.take j).foldl (KM.grownAt met missed (KM.maskOf lot)) []).map iD), .no, .no, .no, .no]) rfl (fun Z2 j e he => ?_) (sd_go ?_))
    · have hel := hsm.lt e (List.mem_of_getElem? he)
      rw [KM.fold_take _ _ he]
      have hpart : (KM.grownAt met missed (KM.maskOf lot) ((lot.take j).foldl (KM.grownAt met missed (KM.maskOf lot)) []) e).length < 1000 := by
        rw [← KM.fold_take (KM.grownAt met missed (KM.maskOf lot)) [] he]
        have := fold_part (KM.grownAt met missed (KM.maskOf lot)) (fun k m => grown_ge met missed (KM.maskOf lot) k m) lot [] (j + 1)
        omega
      generalize (lot.take j).foldl (KM.grownAt met missed (KM.maskOf lot)) [] = g at hpart
      rw [grownAt_eq] at hpart ⊢
      refine sd_seq (sd_asgL (ef_lcL (c := iD) (ts := met) (fun one => one &&& KM.maskOf lot == 2 ^ e) iD (ep_own rfl) (fun _ _ => rfl) (by omega) (fun one _ => et_test (ep_op (ep_op (ep_var rfl) (ep_var rfl) r2_and) (ep_op ep_int (ep_var rfl) (r2_shl1 (by omega))) r2_eqN)) (fun one _ _ => ep_var rfl) (fun _ _ _ => rfl)) (imAll_nD _) (sd_go ?_))
      have hnl : (met.filter fun one => one &&& KM.maskOf lot == 2 ^ e).length ≤ met.length := List.length_filter_le _ _
      refine sd_forL (c := iD) (ts := missed) (ec_var rfl) (fun k => [.val (tsD ls), .val (nD kept), .val (tD lot), .val (iD (KM.maskOf lot)), .own q (met.map iD), .no, .val (nD missed), .own p (((missed.take k).foldl (grow1 met (KM.maskOf lot) e) g).map iD), .val (iD e), .val (nD (met.filter fun one => one &&& KM.maskOf lot == 2 ^ e)), .no, .no]) ?_ (fun Z3 k one hone => ?_) ?_
      · rfl
      · rw [KM.fold_take _ _ hone]
        have hp2 := fold_part (grow1 met (KM.maskOf lot) e) (fun k m => grow1_ge met (KM.maskOf lot) e k m) missed g k
        generalize (missed.take k).foldl (grow1 met (KM.maskOf lot) e) g = g2 at hp2
        refine sd_seq (sd_asg (ep_op (ep_var rfl) (ep_op ep_int (ep_var rfl) (r2_shl1 (by omega))) r2_or) rfl (sd_go ?_))
        refine sd_if (et_B (ep_cb (ea_cons (EF.p (ef_lcL1 (c := iD) (ts := met.filter fun one => one &&& KM.maskOf lot == 2 ^ e) (fun two => .bl (two &&& (one ||| 2 ^ e) != two)) (ep_var rfl) (fun _ _ => rfl) (by omega) (fun two _ => ep_op (ep_op (ep_var rfl) (ep_var rfl) r2_and) (ep_var rfl) r2_neN) (fun _ _ => rfl))) ea_nil) rc_allL)) (fun h => ?_) (fun h => ?_)
        · refine sd_app rfl (ep_var rfl) rfl (by rw [List.length_map]; omega) (sd_leF ?_)
          show LeE [_, _, _, _, _, _, _, _, _, _, _, _] [_, _, _, _, _, _, _, _, _, _, _, _]
          unfold grow1
          rw [if_pos h, List.map_append]
          exact .eq (.eq (.eq (.eq (.eq (.no (.eq (.eq (.eq (.eq (.no (.no .nil)))))))))))
        · refine sd_leF ?_
          show LeE [_, _, _, _, _, _, _, _, _, _, _, _] [_, _, _, _, _, _, _, _, _, _, _, _]
          unfold grow1
          rw [if_neg (by rw [h]; decide)]
          exact .eq (.eq (.eq (.eq (.eq (.no (.eq (.eq (.eq (.eq (.no (.no .nil)))))))))))
      · rw [List.take_length]
        refine sd_leF ?_
        show LeE [_, _, _, _, _, _, _, _, _, _, _, _] [_, _, _, _, _, _, _, _, _, _, _, _]
        exact .eq (.eq (.eq (.eq (.eq (.no (.eq (.eq (.no (.no (.no (.no .nil)))))))))))
    · rw [List.take_length]
      refine sd_asgL (ef_cat (el_own rfl) (el_own rfl) (by rw [List.length_map, List.length_map]; omega)) (by rw [← List.map_append]; exact imAll_nD _) (sd_leF ?_)
      show LeE [_, _, _, _, _, _, _, _, _, _, _, _] [_, _, _, _, _, _, _, _, _, _, _, _]
      rw [← List.map_append]
      exact .eq (.eq (.no (.no (.no (.no (.no (.no (.no (.no (.no (.no .nil)))))))))))
  · have e1 : keptAt ls ls.length = ls.foldl KM.blkStep [0] := by unfold keptAt; rw [List.take_length]
    have hkl := hk ls.length
    rw [e1] at hkl ⊢
    refine sd_ret (ep_call (ea_cons (ep_var rfl) ea_nil) ⟨_, hkl, kept_lt hL.sm, ?_, rfl, rfl⟩) o.rt
    by_cases h : ls = []
    · subst h
      exact .inl (by simp)
    · exact .inr (kept_ne h)
end
end Y
set_option Elab.async false
set_option linter.all false
set_option autoImplicit false
set_option maxRecDepth 100000
set_option maxHeartbeats 4000000
namespace Y
open PySem L2
theorem tD_at {E : List Slot} {i : Nat} {l : List Nat} (h : E[i]? = some (.val (tD l))) : E[i]? = some (.val (.tup (l.map iD))) := by rw [h, tD_eq]
theorem in_at {K : PySem.W.Frag} {a : Nat} {l : List Nat} : R2d K (rIn K false) (iD a) (tD l) (.bl (decide (a ∈ l))) := by
  have h := r2_inI (K := K) (i := (a : Int)) (ns := zs l) (y := tD l) (.inl rfl)
  have e : decide ((a : Int) ∈ zs l) = decide (a ∈ l) := by
    rw [Bool.eq_iff_iff, decide_eq_true_iff, decide_eq_true_iff]
    unfold zs
    rw [List.mem_map]
    constructor
    · rintro ⟨b, h1, h2⟩
      have : b = a := by omega
      rw [← this]; exact h1
    · intro h; exact ⟨a, h, rfl⟩
  rw [e] at h
  exact h
theorem nin_at {K : PySem.W.Frag} {a : Nat} {l : List Nat} : R2d K (rIn K true) (iD a) (tD l) (.bl (!decide (a ∈ l))) := by
  have h := r2_ninI (K := K) (i := (a : Int)) (ns := zs l) (y := tD l) (.inl rfl)
  have e : decide ((a : Int) ∈ zs l) = decide (a ∈ l) := by
    rw [Bool.eq_iff_iff, decide_eq_true_iff, decide_eq_true_iff]
    unfold zs
    rw [List.mem_map]
    constructor
    · rintro ⟨b, h1, h2⟩
      have : b = a := by omega
      rw [← this]; exact h1
    · intro h; exact ⟨a, h, rfl⟩
  rw [e] at h
  exact h
section
variable {P : Program} {w : World} {K : PySem.W.Frag} {mg : Str → Option Value} {base : Heap}
/-! inside -/
abbrev s_law_inside : Stmt := topS 53
abbrev N_law_inside : List Str := ["_law_one", "_law_other", "_law_thing"]
theorem sc_law_inside : FnScope N_law_inside ["_law_one", "_law_other"] (defScope s_law_inside) := ⟨rfl, rfl, rfl, by decide +kernel, rfl, by decide +kernel, by decide +kernel⟩
def p_law_inside (ds : List D) (d : D) : Prop := ∃ a b : List Nat, a.length < 1000 ∧ ds = [tD a, tD b] ∧ d = .bl (KM.inside a b)
theorem ok_law_inside {f : Addr} {fd : FuncData} (F : Fun K "_law_inside" "_law_inside" s_law_inside f fd) (T : Txt mg) : FnOk P w K mg base CX0 1 f fd ["_law_one", "_law_other"] (Pure K p_law_inside) := by
  refine pure_ok F sc_law_inside (fun ds d h => by obtain ⟨_, _, _, rfl, _⟩ := h; rfl) (by decide) fun cdv A outer s H E hr => ?_
  refine ⟨_, (pss_one (ps_ret (pe_cmpR op_eq (pe_callB call_len_seq (by rfl) T.len PySem.boot_len (pa_cons (pe_lc (own := [("_law_thing", 2)]) (g := gName 2) rfl sc_law_inside.nd (pi_tup (pv 0)) (blkOk_by (N := N_law_inside) (sc := defScope s_law_inside) (by decide +kernel)) (fun _ _ _ _ _ => pg_name (i := 2) sc_law_inside.nd rfl (Or.inl rfl)) (fun _ _ _ _ _ => (pts_one (pt_cmpR (r := rIn K true) op_notIn_seq (pv 2) (pv 1) rfl))) (fun _ _ _ _ _ => (pv 2))) pa_nil)) pe_int (nomark _)))), ?_⟩
  rintro ds d ⟨a, b, hz, rfl, rfl⟩ De o
  exact sd_ret (ep_op (ep_cb (ea_cons (EF.p (ef_lcT (c := iD) (ts := a) (fun x => !decide (x ∈ b)) iD (ep_var (tD_at rfl)) (fun _ _ => rfl) (by omega) (fun x _ => et_test (ep_op (ep_var rfl) (ep_var rfl) nin_at)) (fun x _ _ => ep_var rfl) (fun _ _ _ => rfl))) ea_nil) rc_lenLn) ep_n0 r2_eqN) o.rt
/-! common -/
abbrev s_law_common : Stmt := topS 54
abbrev N_law_common : List Str := ["_law_one", "_law_other", "_law_thing"]
theorem sc_law_common : FnScope N_law_common ["_law_one", "_law_other"] (defScope s_law_common) := ⟨rfl, rfl, rfl, by decide +kernel, rfl, by decide +kernel, by decide +kernel⟩
def p_law_common (ds : List D) (d : D) : Prop := ∃ a b : List Nat, a.length < 1000 ∧ ds = [tD a, tD b] ∧ d = iD (KM.common a b)
theorem ok_law_common {f : Addr} {fd : FuncData} (F : Fun K "_law_common" "_law_common" s_law_common f fd) (T : Txt mg) : FnOk P w K mg base CX0 1 f fd ["_law_one", "_law_other"] (Pure K p_law_common) := by
  refine pure_ok F sc_law_common (fun ds d h => by obtain ⟨_, _, _, rfl, _⟩ := h; rfl) (by decide) fun cdv A outer s H E hr => ?_
  refine ⟨_, (pss_one (ps_ret (pe_callB call_len_seq (by rfl) T.len PySem.boot_len (pa_cons (pe_lc (own := [("_law_thing", 2)]) (g := gName 2) rfl sc_law_common.nd (pi_tup (pv 0)) (blkOk_by (N := N_law_common) (sc := defScope s_law_common) (by decide +kernel)) (fun _ _ _ _ _ => pg_name (i := 2) sc_law_common.nd rfl (Or.inl rfl)) (fun _ _ _ _ _ => (pts_one (pt_cmpR (r := rIn K false) op_in_seq (pv 2) (pv 1) rfl))) (fun _ _ _ _ _ => (pv 2))) pa_nil)))), ?_⟩
  rintro ds d ⟨a, b, hz, rfl, rfl⟩ De o
  exact sd_ret (ep_cb (ea_cons (EF.p (ef_lcT (c := iD) (ts := a) (fun x => decide (x ∈ b)) iD (ep_var (tD_at rfl)) (fun _ _ => rfl) (by omega) (fun x _ => et_test (ep_op (ep_var rfl) (ep_var rfl) in_at)) (fun x _ _ => ep_var rfl) (fun _ _ _ => rfl))) ea_nil) rc_lenLn) o.rt
/-! subsets -/
abbrev s_law_subsets : Stmt := topS 55
abbrev N_law_subsets : List Str := ["_law_size", "_law_found", "_law_thing", "_law_those"]
theorem sc_law_subsets : FnScope N_law_subsets ["_law_size"] (defScope s_law_subsets) := ⟨rfl, rfl, rfl, by decide +kernel, rfl, by decide +kernel, by decide +kernel⟩
def p_law_subsets (ds : List D) (l : List D) : Prop := ∃ n : Nat, n ≤ 12 ∧ ds = [iD n] ∧ l = (KM.subsets n).map tD
theorem tD_app (l : List Nat) (n : Nat) : D.tup ((l.map iD) ++ [iD n]) = tD (l ++ [n]) := by
  rw [tD_eq, List.map_append]
  rfl
theorem ok_law_subsets {f : Addr} {fd : FuncData} (F : Fun K "_law_subsets" "_law_subsets" s_law_subsets f fd) (T : Txt mg) : FnOk P w K mg base CX0 1 f fd ["_law_size"] (Fresh K p_law_subsets) := by
  refine fresh_ok F sc_law_subsets (fun ds d h => by obtain ⟨_, _, rfl, _⟩ := h; rfl) (by decide) fun cdv A outer s H E hr => ?_
  refine ⟨_, (pss_cons (ps_set (i := 1) sc_law_subsets.nd rfl (Or.inl rfl) (pe_lst (pa_cons (pe_tup pa_nil) pa_nil)))
    (pss_cons (ps_for PassesOwn.never rfl (pi_range1 (by rfl) T.range (pa_cons (pv 0) pa_nil)) (pg_name (i := 2) sc_law_subsets.nd rfl (Or.inr rfl))
    (pss_one (ps_set (i := 1) sc_law_subsets.nd rfl (Or.inl rfl) (pe_op op_cat (pv 1) (pe_lc (own := [("_law_those", 3)]) (g := gName 3) rfl sc_law_subsets.nd (pi_list (pv 1)) (blkOk_by (N := N_law_subsets) (sc := defScope s_law_subsets) (by decide +kernel)) (fun _ _ _ _ _ => pg_name (i := 3) sc_law_subsets.nd rfl (Or.inl rfl)) (fun _ _ _ _ _ => pts_nil) (fun _ _ _ _ _ => (pe_op (r := rCatA K) op_catA (pv 3) (pe_tup (pa_cons (pv 2) pa_nil)))))))))
    (pss_one (ps_ret (pv 1))))), ?_⟩
  rintro ds d ⟨n, hn, rfl, rfl⟩ De o
  refine sd_seq (sd_asgO (ef_lst (ea_cons (ep_tup ea_nil) ea_nil)) rfl fun p0 => sd_go ?_)
  refine sd_seq (sd_forRW (fun i E => ∃ p, E = [.val (iD n), .own p ((KM.subsets i).map tD), .no, .no]) (ea_cons (ep_var rfl) ea_nil) (by omega) ⟨p0, rfl⟩ ?_ ?_)
  · rintro i E hi ⟨p, rfl⟩
    have hl : (KM.subsets i).length ≤ 4096 := by
      rw [KM.subsets_len]
      have : 2 ^ i ≤ 2 ^ 12 := Nat.pow_le_pow_right (by omega) (by omega)
      omega
    refine sd_asgO (ef_cat (el_own rfl) (el_new (ef_lcL1 (c := tD) (ts := KM.subsets i) (fun s => tD (s ++ [i])) (ep_own rfl) (fun _ _ => tD_im _) (by omega) (fun s hs => ?_) (fun _ _ => tD_im _))) (by rw [List.length_map, List.length_map]; omega)) ?_ fun q => sd_lw ⟨q, rfl⟩ ?_
    · have hsl : s.length ≤ 12 := by
        obtain ⟨h1, h2⟩ := (KM.subsets_mem i s).mp hs
        have : s.length ≤ (List.range 12).length := by
          have hn : s.Nodup := h1.imp fun h => Nat.ne_of_lt h
          exact hn.length_le_of_subset fun x hx => List.mem_range.mpr (by have := h2 x hx; omega)
        simpa using this
      refine ep_is (ep_op (ep_var (tD_at rfl)) (ep_tup (ea_cons (ep_var rfl) ea_nil)) (r2_catA (by rw [List.length_map]; simp; omega))) (tD_app s i)
    · exact imAll_append (imAll_tD _) (imAll_map (fun _ => tD_im _) _)
    · show LeE [_, _, _, _] [_, _, _, _]
      rw [KM.subsets_succ, List.map_append, List.map_map]
      exact .eq (.eq (.no (.no .nil)))
  · rintro E ⟨p, rfl⟩
    exact sd_go (sd_retO rfl o.rt)
end
end Y
set_option Elab.async false
set_option linter.all false
set_option autoImplicit false
set_option maxRecDepth 100000
set_option maxHeartbeats 4000000
namespace Y
open PySem L2
theorem sub_len {n : Nat} {s : List Nat} (hn : n ≤ 12) (hs : s ∈ KM.subsets n) : s.length ≤ 12 := by
  obtain ⟨h1, h2⟩ := (KM.subsets_mem n s).mp hs
  have hd : s.Nodup := h1.imp fun h => Nat.ne_of_lt h
  have : s.length ≤ (List.range 12).length := hd.length_le_of_subset fun x hx => List.mem_range.mpr (by have := h2 x hx; omega)
  simpa using this
theorem leastL1_len (ls : List (List Nat)) (k : List (List Nat)) (m : List Nat) : (KM.leastL1 ls k m).length ≤ k.length + 1 := by
  unfold KM.leastL1
  split
  · omega
  · split <;> simp
theorem ef_is {K : PySem.W.Frag} {B : List Addr} {H0 : Hp} {Z : Hp → Prop} {E : List Slot} {te : TE} {l m : List D} (h : EF K B H0 Z te E l) (e : l = m) : EF K B H0 Z te E m := e ▸ h
section
variable {P : Program} {w : World} {K : PySem.W.Frag} {mg : Str → Option Value} {base : Heap}
/-- lots of the law: few, short, small -/
structure LL (ls : List (List Nat)) : Prop where
  len : ls.length < 1000
  sm : ∀ l ∈ ls, Sm l
theorem units1 {A : Around} {k : Nat} (hr : Room k A) : A.units + 65 < cLine := by have := hr.un; omega
/-! least -/
abbrev s_law_least : Stmt := topS 56
abbrev N_law_least : List Str := ["_law_lots", "_law_kept", "_law_lot", "_law_other"]
theorem sc_law_least : FnScope N_law_least ["_law_lots"] (defScope s_law_least) := ⟨rfl, rfl, rfl, by decide +kernel, rfl, by decide +kernel, by decide +kernel⟩
def p_law_least (ds : List D) (l : List D) : Prop := ∃ ls : List (List Nat), LL ls ∧ (∀ l ∈ ls, l ≠ []) ∧ ds = [lsD ls] ∧ l = (KM.leastL ls).map tD
theorem ok_law_least {f : Addr} {fd : FuncData} (F : Fun K "_law_least" "_law_least" s_law_least f fd) (T : Txt mg) (c_law_inside : Cl P w K mg base 1 "_law_inside" (Pure K p_law_inside)) : FnOk P w K mg base CX0 2 f fd ["_law_lots"] (Fresh K p_law_least) := by
  refine fresh_ok F sc_law_least (fun ds d h => by obtain ⟨_, _, _, rfl, _⟩ := h; rfl) (by decide) fun cdv A outer s H E hr => ?_
  have hu := hr.units
  have hu1 := units1 hr
  refine ⟨_, (pss_cons (ps_set (i := 1) sc_law_least.nd rfl (Or.inl rfl) (pe_lst pa_nil))
    (pss_cons (ps_for PassesOwn.never rfl (pi_list (pv 0)) (pg_name (i := 2) sc_law_least.nd rfl (Or.inr rfl))
    (pss_one (ps_if (pt_cmpR (r := rNotInD K) (op_notInD hu1) (pv 2) (pv 1) rfl) (pss_one (ps_if (pt_cmpR op_eq (pe_callB (r := rLen K) call_lenY (by rfl) T.len PySem.boot_len (pa_cons (pe_lc (own := [("_law_other", 3)]) (g := gName 3) rfl sc_law_least.nd (pi_list (pv 0)) (blkOk_by (N := N_law_least) (sc := defScope s_law_least) (by decide +kernel)) (fun _ _ _ _ _ => pg_name (i := 3) sc_law_least.nd rfl (Or.inl rfl)) (fun _ _ _ _ _ => (pts_one (pw_and (pt_cmpR (r := rNeD K) (op_neD hu) (pv 3) (pv 2) (nomark _)) (pw_and1 (pt_val (pe_cl c_law_inside hr (by decide) (by rfl) (pa_cons (pv 3) (pa_cons (pv 2) pa_nil)))))).pt)) (fun _ _ _ _ _ => (pv 3))) pa_nil)) pe_int (nomark _)) (pss_one (ps_expr (pe_bm PySem.F.plainAttrs_list PySem.F.slot_list_append PySem.F.type_list_append mt_append (pv 1) (pa_cons (pv 2) pa_nil)))) pss_nil)) pss_nil)))
    (pss_one (ps_ret (pe_callB (r := rSortY K) (cr_sortY hu) (by rfl) T.sorted (by decide +kernel) (pa_cons (pv 1) pa_nil)))))), ?_⟩
  rintro ds d ⟨ls, hL, hne, rfl, rfl⟩ De o
  have hz := hL.len
  refine sd_seq (sd_asgO (ef_lst ea_nil) rfl fun p => sd_go ?_)
  have hl : ∀ i, ((ls.take i).foldl (KM.leastL1 ls) []).length < 1000 := fun i => by
    have h1 := fold_len (KM.leastL1 ls) 1 (leastL1_len ls) (ls.take i) []
    have h2 : (ls.take i).length ≤ ls.length := by rw [List.length_take]; omega
    rw [List.length_nil] at h1
    omega
  have hsub : ∀ i, ∀ x ∈ (ls.take i).foldl (KM.leastL1 ls) [], x ∈ ls := fun i => by
    have key : ∀ (r k : List (List Nat)), (∀ x ∈ k, x ∈ ls) → (∀ x ∈ r, x ∈ ls) → ∀ x ∈ r.foldl (KM.leastL1 ls) k, x ∈ ls := by
      intro r
      induction r with
      | nil => intro k hk _; exact hk
      | cons a r ih =>
        intro k hk hr'
        refine ih _ (fun x hx => ?_) fun x hx => hr' x (List.mem_cons_of_mem _ hx)
        unfold KM.leastL1 at hx
        split at hx
        · exact hk x hx
        · split at hx
          · rcases List.mem_append.mp hx with h | h
            · exact hk x h
            · have : x = a := by simpa using h
              rw [this]; exact hr' a List.mem_cons_self
          · exact hk x hx
    exact key _ [] (by simp) fun x hx => List.mem_of_mem_take hx
  refine sd_seq (sd_forL (c := tD) (ts := ls) (ec_var rfl) (fun i => [.val (lsD ls), .own p (((ls.take i).foldl (KM.leastL1 ls) []).map tD), .no, .no]) rfl (fun Z' i lot hlot => ?_) (sd_go ?_))
  · rw [KM.fold_take _ _ hlot]
    have hli := hl i
    generalize (ls.take i).foldl (KM.leastL1 ls) [] = kept at hli
    refine sd_if (et_test (ep_op (ep_var rfl) (ep_own rfl) (r2_ninD (b := !decide (lot ∈ kept)) (tD_cmp lot) (lsD_cmp kept).1 (by rw [mem_tD]; simp)))) (fun h => ?_) (fun h => ?_)
    · have hn : lot ∉ kept := by simpa using h
      refine sd_if (et_test (ep_op (ep_cb (ea_cons (EF.p (ef_lcL (c := tD) (ts := ls) (fun o => !decide (o = lot) && KM.inside o lot) tD (ep_var rfl) (fun _ _ => tD_im _) (by omega)
        (fun o' ho => et_and (et_test (ep_op (ep_var rfl) (ep_var rfl) (r2_neD (b := !decide (o' = lot)) (tD_cmp _) (tD_cmp _) (by rw [tD_inj]; simp)))) fun _ => et_B (ep_call (ea_cons (ep_var rfl) (ea_cons (ep_var rfl) ea_nil)) ⟨o', lot, (hL.sm o' ho).len, rfl, rfl⟩)) (fun _ _ _ => ep_var rfl) (fun _ _ _ => tD_im _))) ea_nil) rc_lenLn) ep_n0 r2_eqN)) (fun h2 => ?_) (fun h2 => ?_)
      · refine sd_app rfl (ep_var rfl) (tD_im _) (by rw [List.length_map]; omega) (sd_leF ?_)
        show LeE [_, _, _, _] [_, _, _, _]
        unfold KM.leastL1
        rw [if_neg hn, if_pos h2, List.map_append]
        exact .eq (.eq (.no (.no .nil)))
      · refine sd_leF ?_
        show LeE [_, _, _, _] [_, _, _, _]
        unfold KM.leastL1
        rw [if_neg hn, if_neg (by rw [h2]; decide)]
        exact .eq (.eq (.no (.no .nil)))
    · have hn : lot ∈ kept := by simpa using h
      refine sd_leF ?_
      show LeE [_, _, _, _] [_, _, _, _]
      unfold KM.leastL1
      rw [if_pos hn]
      exact .eq (.eq (.no (.no .nil)))
  · have hsl := hsub ls.length
    rw [List.take_length] at hsl ⊢
    exact sd_retF (ef_cb (ea_cons (ep_own rfl) ea_nil) (rf_sortY (.inr fun t ht => hne t (hsl t ht)))) o.rt
/-! holds -/
abbrev s_law_holds : Stmt := topS 57
abbrev N_law_holds : List Str := ["_law_lots", "_law_those", "_law_lot"]
theorem sc_law_holds : FnScope N_law_holds ["_law_lots", "_law_those"] (defScope s_law_holds) := ⟨rfl, rfl, rfl, by decide +kernel, rfl, by decide +kernel, by decide +kernel⟩
def p_law_holds (ds : List D) (d : D) : Prop := ∃ (ls : List (List Nat)) (s : List Nat), LL ls ∧ ds = [lsD ls, tD s] ∧ d = .bl (KM.holds ls s)
theorem ok_law_holds {f : Addr} {fd : FuncData} (F : Fun K "_law_holds" "_law_holds" s_law_holds f fd) (T : Txt mg) (c_law_inside : Cl P w K mg base 1 "_law_inside" (Pure K p_law_inside)) : FnOk P w K mg base CX0 2 f fd ["_law_lots", "_law_those"] (Pure K p_law_holds) := by
  refine pure_ok F sc_law_holds (fun ds d h => by obtain ⟨_, _, _, rfl, _⟩ := h; rfl) (by decide) fun cdv A outer s H E hr => ?_
  refine ⟨_, (pss_cons (ps_for PassesOwn.never rfl (pi_list (pv 0)) (pg_name (i := 2) sc_law_holds.nd rfl (Or.inl rfl))
    (pss_one (ps_if (pt_val (pe_cl c_law_inside hr (by decide) (by rfl) (pa_cons (pv 2) (pa_cons (pv 1) pa_nil)))) (pss_one (ps_ret pe_bl)) pss_nil)))
    (pss_one (ps_ret pe_bl))), ?_⟩
  rintro ds d ⟨ls, t, hL, rfl, rfl⟩ De o
  refine sd_seq (sd_forLP (c := tD) (ts := ls) (fun i => ∀ l ∈ ls.take i, KM.inside l t = false) (ec_var rfl) (fun _ => [.val (lsD ls), .val (tD t), .no]) rfl (by simp) (fun Z' i lot hlot hp => ?_) (fun hp => sd_go ?_))
  · refine sd_if (et_B (ep_call (ea_cons (ep_var rfl) (ea_cons (ep_var rfl) ea_nil)) ⟨lot, t, (hL.sm lot (List.mem_of_getElem? hlot)).len, rfl, rfl⟩)) (fun h => ?_) (fun h => ?_)
    · have e : KM.holds ls t = true := List.any_eq_true.mpr ⟨lot, List.mem_of_getElem? hlot, h⟩
      rw [e] at o
      exact sd_ret ep_bl o.rt
    · refine sd_lp (fun l hl => ?_) ?_
      · rw [take_step hlot] at hl
        rcases List.mem_append.mp hl with hl | hl
        · exact hp l hl
        · have : l = lot := by simpa using hl
          rw [this]; exact h
      · exact .eq (.eq (.no .nil))
  · have e : KM.holds ls t = false := by
      rw [List.take_length] at hp
      rw [← Bool.not_eq_true]
      intro z
      obtain ⟨l, h1, h2⟩ := List.any_eq_true.mp z
      rw [hp l h1] at h2
      cases h2
    rw [e] at o
    exact sd_ret ep_bl o.rt
/-! meets -/
abbrev s_law_meets : Stmt := topS 58
abbrev N_law_meets : List Str := ["_law_lots", "_law_those", "_law_lot"]
theorem sc_law_meets : FnScope N_law_meets ["_law_lots", "_law_those"] (defScope s_law_meets) := ⟨rfl, rfl, rfl, by decide +kernel, rfl, by decide +kernel, by decide +kernel⟩
def p_law_meets (ds : List D) (d : D) : Prop := ∃ (ls : List (List Nat)) (s : List Nat), LL ls ∧ ds = [lsD ls, tD s] ∧ d = .bl (KM.meets ls s)
theorem ok_law_meets {f : Addr} {fd : FuncData} (F : Fun K "_law_meets" "_law_meets" s_law_meets f fd) (T : Txt mg) (c_law_common : Cl P w K mg base 1 "_law_common" (Pure K p_law_common)) : FnOk P w K mg base CX0 2 f fd ["_law_lots", "_law_those"] (Pure K p_law_meets) := by
  refine pure_ok F sc_law_meets (fun ds d h => by obtain ⟨_, _, _, rfl, _⟩ := h; rfl) (by decide) fun cdv A outer s H E hr => ?_
  refine ⟨_, (pss_cons (ps_for PassesOwn.never rfl (pi_list (pv 0)) (pg_name (i := 2) sc_law_meets.nd rfl (Or.inl rfl))
    (pss_one (ps_if (pt_cmpR op_eq (pe_cl c_law_common hr (by decide) (by rfl) (pa_cons (pv 2) (pa_cons (pv 1) pa_nil))) pe_int (nomark _)) (pss_one (ps_ret pe_bl)) pss_nil)))
    (pss_one (ps_ret pe_bl))), ?_⟩
  rintro ds d ⟨ls, t, hL, rfl, rfl⟩ De o
  refine sd_seq (sd_forLP (c := tD) (ts := ls) (fun i => ∀ l ∈ ls.take i, KM.common l t ≠ 0) (ec_var rfl) (fun _ => [.val (lsD ls), .val (tD t), .no]) rfl (by simp) (fun Z' i lot hlot hp => ?_) (fun hp => sd_go ?_))
  · refine sd_if (et_test (ep_op (ep_call (ea_cons (ep_var rfl) (ea_cons (ep_var rfl) ea_nil)) ⟨lot, t, (hL.sm lot (List.mem_of_getElem? hlot)).len, rfl, rfl⟩) ep_n0 r2_eqN)) (fun h => ?_) (fun h => ?_)
    · have e : KM.meets ls t = false := by
        rw [← Bool.not_eq_true]
        intro z
        have := List.all_eq_true.mp z lot (List.mem_of_getElem? hlot)
        simp at h this
        exact this h
      rw [e] at o
      exact sd_ret ep_bl o.rt
    · refine sd_lp (fun l hl => ?_) ?_
      · rw [take_step hlot] at hl
        rcases List.mem_append.mp hl with hl | hl
        · exact hp l hl
        · have : l = lot := by simpa using hl
          rw [this]; simpa using h
      · exact .eq (.eq (.no .nil))
  · have e : KM.meets ls t = true := by
      rw [List.take_length] at hp
      exact List.all_eq_true.mpr fun l hl => by simpa using hp l hl
    rw [e] at o
    exact sd_ret ep_bl o.rt
/-! blocker -/
abbrev s_law_blocker : Stmt := topS 59
abbrev N_law_blocker : List Str := ["_law_size", "_law_lots", "_law_found", "_law_those", "_law_spare", "_law_thing", "_law_other"]
theorem sc_law_blocker : FnScope N_law_blocker ["_law_size", "_law_lots"] (defScope s_law_blocker) := ⟨rfl, rfl, rfl, by decide +kernel, rfl, by decide +kernel, by decide +kernel⟩
def p_law_blocker (ds : List D) (l : List D) : Prop := ∃ (n : Nat) (ls : List (List Nat)), n ≤ 12 ∧ LL ls ∧ ls ≠ [] ∧ ds = [iD n, lsD ls] ∧ l = (KM.blocker n ls).map tD
theorem ok_law_blocker {f : Addr} {fd : FuncData} (F : Fun K "_law_blocker" "_law_blocker" s_law_blocker f fd) (T : Txt mg) (c_law_subsets : Cl P w K mg base 1 "_law_subsets" (Fresh K p_law_subsets)) (c_law_meets : Cl P w K mg base 2 "_law_meets" (Pure K p_law_meets)) : FnOk P w K mg base CX0 3 f fd ["_law_size", "_law_lots"] (Fresh K p_law_blocker) := by
  refine fresh_ok F sc_law_blocker (fun ds d h => by obtain ⟨_, _, _, _, _, rfl, _⟩ := h; rfl) (by decide) fun cdv A outer s H E hr => ?_
  have hu := hr.units
  have hu1 := units1 hr
  refine ⟨_, (pss_cons (ps_set (i := 2) sc_law_blocker.nd rfl (Or.inl rfl) (pe_lst pa_nil))
    (pss_cons (ps_for PassesOwn.never rfl (pi_list (pe_cl c_law_subsets hr (by decide) (by rfl) (pa_cons (pv 0) pa_nil))) (pg_name (i := 3) sc_law_blocker.nd rfl (Or.inl rfl))
    (pss_one (ps_if (pt_val (pe_cl c_law_meets hr (by decide) (by rfl) (pa_cons (pv 1) (pa_cons (pv 3) pa_nil)))) (pss_cons (ps_set (i := 4) sc_law_blocker.nd rfl (Or.inl rfl) pe_int)
    (pss_cons (ps_for PassesOwn.never rfl (pi_tup (pv 3)) (pg_name (i := 5) sc_law_blocker.nd rfl (Or.inr rfl))
    (pss_one (ps_if (pt_val (pe_cl c_law_meets hr (by decide) (by rfl) (pa_cons (pv 1) (pa_cons (pe_callTy (r := rTupOf K) call_tupY (by rfl) T.tuple (by decide +kernel) (pa_cons (pe_lc (own := [("_law_other", 6)]) (g := gName 6) rfl sc_law_blocker.nd (pi_tup (pv 3)) (blkOk_by (N := N_law_blocker) (sc := defScope s_law_blocker) (by decide +kernel)) (fun _ _ _ _ _ => pg_name (i := 6) sc_law_blocker.nd rfl (Or.inl rfl)) (fun _ _ _ _ _ => (pts_one (pt_cmpR op_ne (pv 6) (pv 5) (nomark _)))) (fun _ _ _ _ _ => (pv 6))) pa_nil)) pa_nil)))) (pss_one (ps_set (i := 4) sc_law_blocker.nd rfl (Or.inl rfl) (pe_op op_add (pv 4) pe_int))) pss_nil)))
    (pss_one (ps_if (pt_cmpR op_eq (pv 4) pe_int (nomark _)) (pss_one (ps_expr (pe_bm PySem.F.plainAttrs_list PySem.F.slot_list_append PySem.F.type_list_append mt_append (pv 2) (pa_cons (pv 3) pa_nil)))) pss_nil)))) pss_nil)))
    (pss_one (ps_ret (pe_callB (r := rSortY K) (cr_sortY hu) (by rfl) T.sorted (by decide +kernel) (pa_cons (pv 2) pa_nil)))))), ?_⟩
  rintro ds d ⟨n, ls, hn, hL, hls, rfl, rfl⟩ De o
  refine sd_seq (sd_asgO (ef_lst ea_nil) rfl fun p => sd_go ?_)
  have h4 : (KM.subsets n).length ≤ 4096 := by
    rw [KM.subsets_len]
    have : 2 ^ n ≤ 2 ^ 12 := Nat.pow_le_pow_right (by omega) (by omega)
    omega
  have hlen : ∀ i, (((KM.subsets n).take i).filter (KM.isBlk ls)).length ≤ 4096 := fun i => by
    have h1 := List.length_filter_le (KM.isBlk ls) ((KM.subsets n).take i)
    have h2 : ((KM.subsets n).take i).length ≤ (KM.subsets n).length := by rw [List.length_take]; omega
    omega
  refine sd_seq (sd_forL (c := tD) (ts := KM.subsets n) (ec_new (ef_call (ea_cons (ep_var rfl) ea_nil) ⟨n, hn, rfl, rfl⟩) (imAll_tD _)) (fun i => [.val (iD n), .val (lsD ls), .own p ((((KM.subsets n).take i).filter (KM.isBlk ls)).map tD), .no, .no, .no, .no]) rfl (fun Z' i t ht => ?_) (sd_go ?_))
  · have htl : t.length ≤ 12 := sub_len hn (List.mem_of_getElem? ht)
    have hli := hlen i
    rw [take_step ht, List.filter_append, List.map_append]
    generalize ((KM.subsets n).take i).filter (KM.isBlk ls) = acc at hli
    refine sd_if (et_B (ep_call (ea_cons (ep_var rfl) (ea_cons (ep_var rfl) ea_nil)) ⟨ls, t, hL, rfl, rfl⟩)) (fun hm => ?_) (fun hm => ?_)
    · refine sd_seq (sd_asg ep_n0 rfl (sd_go ?_))
      refine sd_seq (sd_forT (c := iD) (ts := t) (ec_im (ep_var (tD_at rfl)) (by rw [← tD_eq]; exact tD_im _)) (fun j => [.val (iD n), .val (lsD ls), .own p (acc.map tD), .val (tD t), .val (iD ((t.take j).filter fun x => KM.meets ls (t.filter fun o => o != x)).length), .no, .no]) rfl (fun Z2 j x hx => ?_) (sd_go ?_))
      · rw [take_step hx, List.filter_append, List.length_append]
        refine sd_if (et_B (ep_call (ea_cons (ep_var rfl) (ea_cons (ep_is (ep_cb (ea_cons (EF.p (ef_lcT (c := iD) (ts := t) (fun o => o != x) iD (ep_var (tD_at rfl)) (fun _ _ => rfl) (by omega) (fun o' _ => et_test (ep_op (ep_var rfl) (ep_var rfl) r2_neN)) (fun _ _ _ => ep_var rfl) (fun _ _ _ => rfl))) ea_nil) rc_tupleL) (tD_eq _).symm) ea_nil)) ⟨ls, t.filter fun o => o != x, hL, rfl, rfl⟩)) (fun h => ?_) (fun h => ?_)
        · refine sd_asg (ep_op (ep_var rfl) ep_n1 r2_int) rfl (sd_leF ?_)
          show LeE [_, _, _, _, _, _, _] [_, _, _, _, _, _, _]
          have e : ([x].filter fun x => KM.meets ls (t.filter fun o => o != x)).length = 1 := by simp [h]
          rw [e]
          exact .eq (.eq (.eq (.eq (.eq (.no (.no .nil))))))
        · refine sd_leF ?_
          show LeE [_, _, _, _, _, _, _] [_, _, _, _, _, _, _]
          have e : ([x].filter fun x => KM.meets ls (t.filter fun o => o != x)).length = 0 := by simp [h]
          rw [e]
          exact .eq (.eq (.eq (.eq (.eq (.no (.no .nil))))))
      · rw [List.take_length]
        refine sd_if (et_test (ep_op (ep_var rfl) ep_n0 r2_eqN)) (fun h => ?_) (fun h => ?_)
        · refine sd_app rfl (ep_var rfl) (tD_im _) (by rw [List.length_map]; omega) (sd_leF ?_)
          show LeE [_, _, _, _, _, _, _] [_, _, _, _, _, _, _]
          have e : [t].filter (KM.isBlk ls) = [t] := by
            have : KM.isBlk ls t = true := by
              show (KM.meets ls t && KM.spare ls t == 0) = true
              rw [hm]; exact h
            simp [this]
          rw [e]
          exact .eq (.eq (.eq (.no (.no (.no (.no .nil))))))
        · refine sd_leF ?_
          show LeE [_, _, _, _, _, _, _] [_, _, _, _, _, _, _]
          have e : [t].filter (KM.isBlk ls) = [] := by
            have : KM.isBlk ls t = false := by
              show (KM.meets ls t && KM.spare ls t == 0) = false
              rw [hm]; exact h
            simp [this]
          rw [e, List.map_nil, List.append_nil]
          exact .eq (.eq (.eq (.no (.no (.no (.no .nil))))))
    · refine sd_leF ?_
      show LeE [_, _, _, _, _, _, _] [_, _, _, _, _, _, _]
      have e : [t].filter (KM.isBlk ls) = [] := by
        have : KM.isBlk ls t = false := by
          show (KM.meets ls t && KM.spare ls t == 0) = false
          rw [hm]; rfl
        simp [this]
      rw [e, List.map_nil, List.append_nil]
      exact .eq (.eq (.eq (.no (.no (.no (.no .nil))))))
  · rw [List.take_length]
    refine sd_retF (ef_cb (ea_cons (ep_own rfl) ea_nil) (rf_sortY (.inr fun t ht => ?_))) o.rt
    intro e
    subst e
    have h := (List.mem_filter.mp ht).2
    have hm : KM.meets ls [] = true := by
      have : (KM.meets ls [] && KM.spare ls [] == 0) = true := h
      simp at this
      exact this.1
    cases ls with
    | nil => exact hls rfl
    | cons a r =>
      obtain ⟨x, _, hx⟩ := KM.meets_iff.mp hm a List.mem_cons_self
      cases hx
/-! sized -/
abbrev s_law_sized : Stmt := topS 60
abbrev N_law_sized : List Str := ["_law_size", "_law_number", "_law_those"]
theorem sc_law_sized : FnScope N_law_sized ["_law_size", "_law_number"] (defScope s_law_sized) := ⟨rfl, rfl, rfl, by decide +kernel, rfl, by decide +kernel, by decide +kernel⟩
def p_law_sized (ds : List D) (l : List D) : Prop := ∃ n k : Nat, n ≤ 12 ∧ 1 ≤ k ∧ ds = [iD n, iD k] ∧ l = (KM.sized n k).map tD
theorem ok_law_sized {f : Addr} {fd : FuncData} (F : Fun K "_law_sized" "_law_sized" s_law_sized f fd) (T : Txt mg) (c_law_subsets : Cl P w K mg base 1 "_law_subsets" (Fresh K p_law_subsets)) : FnOk P w K mg base CX0 2 f fd ["_law_size", "_law_number"] (Fresh K p_law_sized) := by
  refine fresh_ok F sc_law_sized (fun ds d h => by obtain ⟨_, _, _, _, rfl, _⟩ := h; rfl) (by decide) fun cdv A outer s H E hr => ?_
  have hu := hr.units
  have hu1 := units1 hr
  refine ⟨_, (pss_one (ps_ret (pe_callB (r := rSortY K) (cr_sortY hu) (by rfl) T.sorted (by decide +kernel) (pa_cons (pe_lc (own := [("_law_those", 2)]) (g := gName 2) rfl sc_law_sized.nd (pi_list (pe_cl c_law_subsets hr (by decide) (by rfl) (pa_cons (pv 0) pa_nil))) (blkOk_by (N := N_law_sized) (sc := defScope s_law_sized) (by decide +kernel)) (fun _ _ _ _ _ => pg_name (i := 2) sc_law_sized.nd rfl (Or.inl rfl)) (fun _ _ _ _ _ => (pts_one (pt_cmpR op_eq (pe_callB (r := rLen K) call_lenY (by rfl) T.len PySem.boot_len (pa_cons (pv 2) pa_nil)) (pv 1) (nomark _)))) (fun _ _ _ _ _ => (pv 2))) pa_nil)))), ?_⟩
  rintro ds d ⟨n, k, hn, hk, rfl, rfl⟩ De o
  have h4 : (KM.subsets n).length ≤ 4096 := by
    rw [KM.subsets_len]
    have : 2 ^ n ≤ 2 ^ 12 := Nat.pow_le_pow_right (by omega) (by omega)
    omega
  refine sd_retF (ef_cb (ea_cons (EF.p (ef_lcL (c := tD) (ts := KM.subsets n) (fun s => s.length == k) tD (EF.p (ef_call (ea_cons (ep_var rfl) ea_nil) ⟨n, hn, rfl, rfl⟩)) (fun _ _ => tD_im _) (by omega)
    (fun s _ => et_test (ep_op (ep_cb (ea_cons (ep_var (tD_at rfl)) ea_nil) rc_lenTn) (ep_var rfl) r2_eqN)) (fun _ _ _ => ep_var rfl) (fun _ _ _ => tD_im _))) ea_nil) (rf_sortY (.inr fun t ht => ?_))) o.rt
  intro e
  subst e
  have h := (List.mem_filter.mp ht).2
  simp at h
  omega
/-! fan -/
abbrev s_law_fan : Stmt := topS 61
abbrev N_law_fan : List Str := ["_law_size", "_law_lots", "_law_thing"]
theorem sc_law_fan : FnScope N_law_fan ["_law_size"] (defScope s_law_fan) := ⟨rfl, rfl, rfl, by decide +kernel, rfl, by decide +kernel, by decide +kernel⟩
def p_law_fan (ds : List D) (l : List D) : Prop := ∃ n : Nat, 3 ≤ n ∧ n ≤ 60 ∧ ds = [iD n] ∧ l = (KM.fanL n).map tD
theorem ok_law_fan {f : Addr} {fd : FuncData} (F : Fun K "_law_fan" "_law_fan" s_law_fan f fd) (T : Txt mg) : FnOk P w K mg base CX0 1 f fd ["_law_size"] (Fresh K p_law_fan) := by
  refine fresh_ok F sc_law_fan (fun ds d h => by obtain ⟨_, _, _, rfl, _⟩ := h; rfl) (by decide) fun cdv A outer s H E hr => ?_
  have hu := hr.units
  have hu1 := units1 hr
  refine ⟨_, (pss_cons (ps_setLc (i := 1) (own := [("_law_thing", 2)]) (g := gName 2) rfl sc_law_fan.nd rfl rfl (sw_true rfl rfl rfl (by decide +kernel)) (pi_range2 (by rfl) T.range (pa_cons pe_int (pa_cons (pv 0) pa_nil))) (blkOk_by (N := N_law_fan) (sc := defScope s_law_fan) (by decide +kernel)) (fun _ _ _ _ _ => pg_name (i := 2) sc_law_fan.nd rfl (Or.inl rfl)) (fun _ _ _ _ _ => pts_nil) (fun _ _ _ _ _ => (pe_tup (pa_cons pe_int (pa_cons (pv 2) pa_nil)))))
    (pss_one (ps_ret (pe_callB (r := rSortY K) (cr_sortY hu) (by rfl) T.sorted (by decide +kernel) (pa_cons (pe_op op_cat (pv 1) (pe_lst (pa_cons (pe_tupRg rfl (by rfl) T.tuple (prg_2 (by rfl) T.range pe_int (pv 0))) pa_nil))) pa_nil))))), ?_⟩
  rintro ds d ⟨n, h3, hn, rfl, rfl⟩ De o
  have e1 : (((n : Int) - 1).toNat) = n - 1 := by omega
  refine sd_seq (sd_asgO (ef_lcR21 (fun i => tD [0, i + 1]) (ea_cons ep_n1 (ea_cons (ep_var rfl) ea_nil)) (by omega) (by omega) (fun i hi => ep_is (ep_tup (ea_cons ep_n0 (ea_cons (ep_var rfl) ea_nil))) ?_) (fun _ _ => tD_im _)) (imAll_map (fun _ => tD_im _) _) fun p => sd_go ?_)
  · rw [tD_eq]
    show D.tup [.int 0, .int (1 + (i : Int))] = D.tup [.int 0, .int ((i + 1 : Nat) : Int)]
    have : (1 + (i : Int)) = ((i + 1 : Nat) : Int) := by omega
    rw [this]
  · have e2 : ((List.range (n - 1)).map fun i => [0, i + 1]).map tD = (List.range (n - 1)).map fun i => tD [0, i + 1] := by rw [List.map_map]; rfl
    have e3 : D.tup ((List.range (((n : Int) - 1).toNat)).map fun (i : Nat) => D.int (1 + (i : Int))) = tD ((List.range (n - 1)).map fun i => i + 1) := by
      rw [tD_eq, e1, List.map_map]
      congr 1
      refine List.map_congr_left fun i _ => ?_
      show D.int (1 + (i : Int)) = D.int ((i + 1 : Nat) : Int)
      rw [show (1 + (i : Int)) = ((i + 1 : Nat) : Int) by omega]
    have hb := ep_tupRg2 (K := K) (B := []) (H0 := H) (Z := fun _ => True) (E := (entry N_law_fan [iD n]).set 1 (.own p ((List.range (((n : Int) - 1).toNat)).map fun i => tD [0, i + 1]))) (ta := tC (.int 1)) (tb := tVar 0) (lo := 1) (hi := n) ep_n1 (ep_var rfl) (by omega)
    have hc := ef_cat (K := K) (B := []) (H0 := H) (Z := fun _ => True) (E := (entry N_law_fan [iD n]).set 1 (.own p ((List.range (((n : Int) - 1).toNat)).map fun i => tD [0, i + 1]))) (ta := tVar 1) (el_own rfl) (el_new (ef_lst (ea_cons (ep_is hb e3) ea_nil))) (by rw [List.length_map, List.length_range]; simp; omega)
    have hs := rf_sortY (K := K) (ts := (List.range (n - 1)).map (fun i => [0, i + 1]) ++ [(List.range (n - 1)).map fun i => i + 1]) (.inr fun t ht => ?_)
    · rw [lsD, List.map_append, e2] at hs
      exact sd_retF (ef_cb (ea_cons (EF.p (ef_is hc (by rw [e1]; rfl))) ea_nil) hs) o.rt
    · rcases List.mem_append.mp ht with h | h
      · obtain ⟨i, _, rfl⟩ := List.mem_map.mp h
        simp
      · have : t = (List.range (n - 1)).map fun i => i + 1 := by simpa using h
        rw [this]
        intro z
        have := congrArg List.length z
        simp at this
        omega
/-! ring -/
abbrev s_law_ring : Stmt := topS 62
abbrev N_law_ring : List Str := ["_law_size", "_law_lots", "_law_thing"]
theorem sc_law_ring : FnScope N_law_ring ["_law_size"] (defScope s_law_ring) := ⟨rfl, rfl, rfl, by decide +kernel, rfl, by decide +kernel, by decide +kernel⟩
def p_law_ring (ds : List D) (l : List D) : Prop := ∃ n : Nat, 3 ≤ n ∧ n ≤ 60 ∧ ds = [iD n] ∧ l = (KM.ringL n).map tD
theorem ok_law_ring {f : Addr} {fd : FuncData} (F : Fun K "_law_ring" "_law_ring" s_law_ring f fd) (T : Txt mg) : FnOk P w K mg base CX0 1 f fd ["_law_size"] (Fresh K p_law_ring) := by
  refine fresh_ok F sc_law_ring (fun ds d h => by obtain ⟨_, _, _, rfl, _⟩ := h; rfl) (by decide) fun cdv A outer s H E hr => ?_
  have hu := hr.units
  have hu1 := units1 hr
  refine ⟨_, (pss_cons (ps_setLc (i := 1) (own := [("_law_thing", 2)]) (g := gName 2) rfl sc_law_ring.nd rfl rfl (sw_true rfl rfl rfl (by decide +kernel)) (pi_range1 (by rfl) T.range (pa_cons (pe_op op_sub (pv 0) pe_int) pa_nil)) (blkOk_by (N := N_law_ring) (sc := defScope s_law_ring) (by decide +kernel)) (fun _ _ _ _ _ => pg_name (i := 2) sc_law_ring.nd rfl (Or.inl rfl)) (fun _ _ _ _ _ => pts_nil) (fun _ _ _ _ _ => (pe_tup (pa_cons (pv 2) (pa_cons (pe_op op_add (pv 2) pe_int) pa_nil)))))
    (pss_one (ps_ret (pe_callB (r := rSortY K) (cr_sortY hu) (by rfl) T.sorted (by decide +kernel) (pa_cons (pe_op op_cat (pv 1) (pe_lst (pa_cons (pe_tup (pa_cons pe_int (pa_cons (pe_op op_sub (pv 0) pe_int) pa_nil))) pa_nil))) pa_nil))))), ?_⟩
  rintro ds d ⟨n, h3, hn, rfl, rfl⟩ De o
  have e1 : (((n : Int) - 1).toNat) = n - 1 := by omega
  refine sd_seq (sd_asgO (ef_lcR1 (fun i => tD [i, i + 1]) (ea_cons (ep_op (ep_var rfl) ep_n1 r2_int) ea_nil) (by omega) (fun i hi => ep_is (ep_tup (ea_cons (ep_var rfl) (ea_cons (ep_op (ep_var rfl) ep_n1 r2_int) ea_nil))) ?_) (fun _ _ => tD_im _)) (imAll_map (fun _ => tD_im _) _) fun p => sd_go ?_)
  · rw [tD_eq]
    rfl
  · have e2 : ((List.range (n - 1)).map fun i => [i, i + 1]).map tD = (List.range (n - 1)).map fun i => tD [i, i + 1] := by rw [List.map_map]; rfl
    have e3 : D.tup [D.int 0, D.int ((n : Int) - 1)] = tD [0, n - 1] := by
      rw [tD_eq]
      show D.tup [.int 0, .int ((n : Int) - 1)] = D.tup [.int 0, .int ((n - 1 : Nat) : Int)]
      have : (n : Int) - 1 = ((n - 1 : Nat) : Int) := by omega
      rw [this]
    have hc := ef_cat (K := K) (B := []) (H0 := H) (Z := fun _ => True) (E := (entry N_law_ring [iD n]).set 1 (.own p ((List.range (((n : Int) - 1).toNat)).map fun i => tD [i, i + 1]))) (ta := tVar 1) (el_own rfl) (el_new (ef_lst (ea_cons (ep_is (ep_tup (ea_cons ep_n0 (ea_cons (ep_op (ep_var (i := 0) rfl) ep_n1 r2_int) ea_nil))) e3) ea_nil))) (by rw [List.length_map, List.length_range]; simp; omega)
    have hs := rf_sortY (K := K) (ts := (List.range (n - 1)).map (fun i => [i, i + 1]) ++ [[0, n - 1]]) (.inr fun t ht => ?_)
    · rw [lsD, List.map_append, e2] at hs
      exact sd_retF (ef_cb (ea_cons (EF.p (ef_is hc (by rw [e1]; rfl))) ea_nil) hs) o.rt
    · rcases List.mem_append.mp ht with h | h
      · obtain ⟨i, _, rfl⟩ := List.mem_map.mp h
        simp
      · have : t = [0, n - 1] := by simpa using h
        rw [this]
        simp
end
end Y
set_option Elab.async false
set_option linter.all false
set_option autoImplicit false
set_option maxRecDepth 100000
set_option maxHeartbeats 4000000
namespace Y
open PySem L2
/-- the class BadSet -/
structure BadC (P : Program) (K : PySem.W.Frag) (mg : Str → Option Value) (C f : Addr) : Prop where
  c : ExcK K P C f "bad set: place "
  m : mg "BadSet" = some (.ref C)
  s : mg "super" = none
section
variable {P : Program} {w : World} {K : PySem.W.Frag} {mg : Str → Option Value} {base : Heap}
/-! is_integer -/
abbrev s_is_integer : Stmt := topS 14
abbrev N_is_integer : List Str := ["value", "low"]
theorem sc_is_integer : FnScope N_is_integer ["value", "low"] (defScope s_is_integer) := ⟨rfl, rfl, rfl, by decide +kernel, rfl, by decide +kernel, by decide +kernel⟩
def isInt (e : D) (low : Int) : Bool := match e with
  | .int i => decide (low ≤ i)
  | _ => false
theorem kit_int {ty : String} (h : ty ∈ ["NoneType", "bool", "int", "str", "tuple", "list"]) : kitB ty "int" = some (ty == "bool" || ty == "int") ∧ kitB ty "bool" = some (ty == "bool") ∧ kitB ty "list" = some (ty == "list") ∧ kitB ty "tuple" = some (ty == "tuple") := by
  revert ty
  decide +kernel
theorem tyN_mem {d : D} {ty : String} (h : d.tyN = some ty) : ty ∈ ["NoneType", "bool", "int", "str", "tuple", "list"] := by
  cases d <;> simp_all [D.tyN] <;> simp [← h]
def p_is_integer (ds : List D) (d : D) : Prop := ∃ (e : D) (low : Int), e.tyN.isSome = true ∧ ds = [e, .int low] ∧ d = .bl (isInt e low)
theorem ok_is_integer {f : Addr} {fd : FuncData} (F : Fun K "is_integer" "is_integer" s_is_integer f fd) (T : Txt mg) : FnOk P w K mg base CX0 1 f fd ["value", "low"] (Pure K p_is_integer) := by
  refine pure_ok F sc_is_integer (fun ds d h => by obtain ⟨_, _, _, rfl, _⟩ := h; rfl) (by decide) fun cdv A outer s H E hr => ?_
  refine ⟨_, (pss_one (ps_ret (pe_and (pe_callB (r := rIsi K) call_isi (by rfl) T.isinstance (by decide +kernel) (pa_cons (pv 0) (pa_cons (pe_bltn (v := .ty "int") (by rfl) T.int (by decide +kernel) rfl) pa_nil))) (pe_and (pe_not (pe_callB (r := rIsi K) call_isi (by rfl) T.isinstance (by decide +kernel) (pa_cons (pv 0) (pa_cons (pe_bltn (v := .ty "bool") (by rfl) T.bool (by decide +kernel) rfl) pa_nil)))) (pe_one (pe_cmpR op_ge (pv 0) (pv 1) (nomark _))))))), ?_⟩
  rintro ds d ⟨e, low, ht, rfl, rfl⟩ De o
  obtain ⟨ty, ht⟩ := Option.isSome_iff_exists.mp ht
  obtain ⟨k1, k2, _⟩ := kit_int (tyN_mem ht)
  refine sd_ret (ep_is (ep_andV (c := (!(ty == "bool")) && isInt e low) (ep_isi (ep_var rfl) ht k1) fun h1 => ep_is (ep_andV (c := isInt e low) (ep_notV (ep_isi (ep_var rfl) ht k2)) fun h2 => ?_) rfl) ?_) o.rt
  · have : ty = "int" := by simpa [show (ty == "bool") = false by simpa using h2] using h1
    subst this
    cases e with
    | int i => exact ep_op (ep_var rfl) (ep_var rfl) r2_cmp
    | _ => simp [D.tyN] at ht
  · cases e <;> simp [D.tyN] at ht <;> subst ht <;> simp [isInt]
/-! ask_size -/
abbrev s_ask_size : Stmt := topS 16
abbrev N_ask_size : List Str := ["size"]
theorem sc_ask_size : FnScope N_ask_size ["size"] (defScope s_ask_size) := ⟨rfl, rfl, rfl, by decide +kernel, rfl, by decide +kernel, by decide +kernel⟩
def p_ask_size (ds : List D) (d : D) : Prop := ∃ n : Nat, 1 ≤ n ∧ ds = [iD n] ∧ d = .non
theorem ok_ask_size {f : Addr} {fd : FuncData} (F : Fun K "ask_size" "ask_size" s_ask_size f fd) (T : Txt mg) (c_is_integer : Cl P w K mg base 1 "is_integer" (Pure K p_is_integer)) : FnOk P w K mg base CX0 2 f fd ["size"] (Pure K p_ask_size) := by
  refine pure_ok F sc_ask_size (fun ds d h => by obtain ⟨_, _, rfl, _⟩ := h; rfl) (by decide) fun cdv A outer s H E hr => ?_
  refine ⟨_, (pss_one (ps_if (pt_not (pt_val (pe_cl c_is_integer hr (by decide) (by rfl) (pa_cons (pv 0) (pa_cons pe_int pa_nil))))) pss_never pss_nil)), ?_⟩
  rintro ds d ⟨n, hn, rfl, rfl⟩ De o
  have e : isInt (iD n) 1 = true := by simp [isInt, iD]; omega
  refine sd_if (et_not (et_B (ep_call (ea_cons (ep_var rfl) (ea_cons ep_int ea_nil)) ⟨iD n, 1, rfl, rfl, rfl⟩))) (fun h => ?_) (fun h => ?_)
  · rw [e] at h
    cases h
  · exact sd_end o
/-! is_thing -/
abbrev s_is_thing : Stmt := topS 17
abbrev N_is_thing : List Str := ["value", "size"]
theorem sc_is_thing : FnScope N_is_thing ["value", "size"] (defScope s_is_thing) := ⟨rfl, rfl, rfl, by decide +kernel, rfl, by decide +kernel, by decide +kernel⟩
def isTh (e : D) (n : Nat) : Bool := match e with
  | .int i => decide (0 ≤ i) && decide (i < (n : Int))
  | _ => false
def p_is_thing (ds : List D) (d : D) : Prop := ∃ (e : D) (n : Nat), e.tyN.isSome = true ∧ ds = [e, iD n] ∧ d = .bl (isTh e n)
theorem ok_is_thing {f : Addr} {fd : FuncData} (F : Fun K "is_thing" "is_thing" s_is_thing f fd) (T : Txt mg) (c_is_integer : Cl P w K mg base 1 "is_integer" (Pure K p_is_integer)) : FnOk P w K mg base CX0 2 f fd ["value", "size"] (Pure K p_is_thing) := by
  refine pure_ok F sc_is_thing (fun ds d h => by obtain ⟨_, _, _, rfl, _⟩ := h; rfl) (by decide) fun cdv A outer s H E hr => ?_
  refine ⟨_, (pss_one (ps_ret (pe_and (pe_cl c_is_integer hr (by decide) (by rfl) (pa_cons (pv 0) (pa_cons pe_int pa_nil))) (pe_one (pe_cmpR op_lt (pv 0) (pv 1) (nomark _)))))), ?_⟩
  rintro ds d ⟨e, n, ht, rfl, rfl⟩ De o
  refine sd_ret (ep_is (ep_andV (c := isTh e n) (ep_call (ea_cons (ep_var rfl) (ea_cons ep_int ea_nil)) ⟨e, 0, ht, rfl, rfl⟩) fun h => ?_) ?_) o.rt
  · cases e with
    | int i =>
      have h0 : decide (0 ≤ i) = true := h
      exact ep_is (ep_op (ep_var rfl) (ep_var rfl) (r2_cmp (g := fun i j => decide (i < j)))) (by simp only [isTh, h0, Bool.true_and])
    | _ => simp [isInt] at h
  · cases e <;> simp [isInt, isTh]
/-! set_of -/
abbrev s_set_of : Stmt := topS 19
abbrev N_set_of : List Str := ["things", "size", "found", "place"]
theorem sc_set_of : FnScope N_set_of ["things", "size"] (defScope s_set_of) := ⟨rfl, rfl, rfl, by decide +kernel, rfl, by decide +kernel, by decide +kernel⟩
/-- a row of things, none twice -/
structure Row (n : Nat) (f : List Nat) : Prop where
  len : f.length < 1000
  nd : f.Nodup
  lt : ∀ x ∈ f, x < n
def Seq (s : D) (l : List D) : Prop := s = .tup l ∨ s = .lst l
def p_set_of (ds : List D) (d : D) : Prop := ∃ (f : List Nat) (n : Nat) (s : D), 1 ≤ n ∧ Row n f ∧ Seq s (f.map iD) ∧ ds = [s, iD n] ∧ d = tD (KM.sortN f)
def q_set_of (CB : Addr) (ds : List D) (C : Addr) (m : Int) : Prop := C = CB ∧ ∃ n : Nat, 1 ≤ n ∧ ((ds = [.non, iD n] ∧ m = -1) ∨
  ∃ (f : List Nat) (e : D) (r : List D) (s : D), Row n f ∧ r.length < 1000 ∧ e.tyN.isSome = true ∧ (isTh e n = false ∨ ∃ x ∈ f, e = iD x) ∧ Seq s (f.map iD ++ e :: r) ∧ ds = [s, iD n] ∧ m = (f.length : Int))
theorem Seq.ty {s : D} {l : List D} (h : Seq s l) : ∃ ty, s.tyN = some ty ∧ (ty == "list" || ty == "tuple") = true := by
  rcases h with rfl | rfl
  · exact ⟨_, rfl, by decide⟩
  · exact ⟨_, rfl, by decide⟩
theorem Seq.len {s : D} {l : List D} (h : Seq s l) : RCd K (rLen K) [s] (.int l.length) := by
  rcases h with rfl | rfl
  · exact rc_lenT
  · exact rc_lenL
theorem Seq.ix {s d : D} {l : List D} {i : Nat} (h : Seq s l) (e : l[i]? = some d) : R2d K (rIx K) s (iD i) d := by
  have a : atI l (i : Int) = some d := by
    have hi : i < l.length := (List.getElem?_eq_some_iff.mp e).1
    unfold atI ixN
    rw [if_pos (by omega), if_pos (by omega)]
    have : ((i : Int)).toNat = i := by omega
    rw [this]
    exact e
  rcases h with rfl | rfl
  · exact fun vx vy H hx hy Q q => .inr (.inl (r2_ixT a vx vy H hx hy Q q))
  · exact fun vx vy H hx hy Q q => .inl (r2_ixL a vx vy H hx hy Q q)
theorem r1_neg {i : Int} : R1d K (rU fun i => .int (-i)) (.int i) (.int (-i)) := fun v H h Q q => by
  cases h
  exact ⟨i, rfl, q _ H (Ex.refl H) (.int _)⟩
theorem isTh_nat {x n : Nat} : isTh (iD x) n = decide (x < n) := by
  simp only [isTh, iD]
  by_cases h : x < n <;> simp [h] <;> omega
theorem in_own {x : Nat} {l : List Nat} : R2d K (rIn K false) (iD x) (.lst (l.map iD)) (.bl (decide (x ∈ l))) := by
  have e0 : (D.lst (l.map iD)) = .lst ((zs l).map D.int) := nD_eq l
  have h := r2_inI (K := K) (i := (x : Int)) (ns := zs l) (y := .lst (l.map iD)) (.inr e0)
  have e : decide ((x : Int) ∈ zs l) = decide (x ∈ l) := by
    rw [Bool.eq_iff_iff, decide_eq_true_iff, decide_eq_true_iff]
    unfold zs
    constructor
    · intro h
      obtain ⟨y, h1, h2⟩ := List.mem_map.mp h
      have : y = x := by omega
      rw [← this]; exact h1
    · intro h
      exact List.mem_map.mpr ⟨x, h, rfl⟩
  rw [e] at h
  exact h
theorem nodup_take {f : List Nat} {i x : Nat} (nd : f.Nodup) (e : f[i]? = some x) : x ∉ f.take i := by
  intro h
  obtain ⟨j, hj, e2⟩ := List.mem_iff_getElem.mp h
  have hji : j < i := by
    rw [List.length_take] at hj
    omega
  rw [List.getElem_take] at e2
  obtain ⟨hi, e1⟩ := List.getElem?_eq_some_iff.mp e
  exact (List.pairwise_iff_getElem.mp nd) j i (by omega) hi hji (e2.trans e1.symm)
theorem ok_set_of {CB fB : Addr} {f : Addr} {fd : FuncData} (F : Fun K "set_of" "set_of" s_set_of f fd) (T : Txt mg) (bc : BadC P K mg CB fB) (c_ask_size : Cl P w K mg base 2 "ask_size" (Pure K p_ask_size)) (c_is_thing : Cl P w K mg base 2 "is_thing" (Pure K p_is_thing)) :
    FnOk P w K mg base (L2.CX P w) 3 f fd ["things", "size"] (PureX K p_set_of (q_set_of CB)) := by
  refine purex_ok F sc_set_of (fun ds h => by
    rcases h with ⟨d, _, _, _, _, _, _, rfl, _⟩ | ⟨C, m, _, n, _, ⟨rfl, _⟩ | ⟨_, _, _, _, _, _, _, _, _, rfl, _⟩⟩ <;> rfl) (by decide) fun cdv A outer s H E hr => ?_
  have tk : L2.Takes (cxOf (L2.CX P w) P w K mg base N_set_of "set_of" (defScope s_set_of) f cdv A outer s H E) (fun cls d _ H => E cls d H) := takes_of rfl rfl rfl rfl
  have po : PassesOwn (model P w) (cxOf (L2.CX P w) P w K mg base N_set_of "set_of" (defScope s_set_of) f cdv A outer s H E).A (cxOf (L2.CX P w) P w K mg base N_set_of "set_of" (defScope s_set_of) f cdv A outer s H E).env (cxOf (L2.CX P w) P w K mg base N_set_of "set_of" (defScope s_set_of) f cdv A outer s H E).xe := passes_of rfl
  refine ⟨_, (pss_cons (ps_expr (pe_cl c_ask_size hr (by decide) (by rfl) (pa_cons (pv 1) pa_nil)))
    (pss_cons (ps_if (pt_not (pt_val (pe_callB (r := rIsiT K) call_isiT (by rfl) T.isinstance (by decide +kernel) (pa_cons (pv 0) (pa_cons (pe_tup (pa_cons (pe_bltn (v := .ty "list") (by rfl) T.list (by decide +kernel) rfl) (pa_cons (pe_bltn (v := .ty "tuple") (by rfl) T.tuple (by decide +kernel) rfl) pa_nil))) pa_nil)))))
      (pss_one (ps_raise (by rfl) tk (pmk_exc (k := 0) bc.c (by decide) (hr.mono (by decide)) (by rfl) bc.m bc.s (pa_cons (pe_un un_neg pe_int) pa_nil)))) pss_nil)
    (pss_cons (ps_set (i := 2) sc_set_of.nd rfl (Or.inl rfl) (pe_lst pa_nil))
    (pss_cons (ps_for po rfl (pi_range1 (by rfl) T.range (pa_cons (pe_callB (r := rLen K) call_lenY (by rfl) T.len PySem.boot_len (pa_cons (pv 0) pa_nil)) pa_nil)) (pg_name (i := 3) sc_set_of.nd rfl (Or.inl rfl))
    (pss_cons (ps_if (pw_or (pt_not (pt_val (pe_cl c_is_thing hr (by decide) (by rfl) (pa_cons (pe_ix (r := rIx K) ix_seq (pv 0) (pv 3) (fun _ _ => rfl)) (pa_cons (pv 1) pa_nil))))) (pw_or1 (pt_cmpR (r := rIn K false) op_in_seq (pe_ix (r := rIx K) ix_seq (pv 0) (pv 3) (fun _ _ => rfl)) (pv 2) rfl))).pt
      (pss_one (ps_raise (by rfl) tk (pmk_exc (k := 0) bc.c (by decide) (hr.mono (by decide)) (by rfl) bc.m bc.s (pa_cons (pv 3) pa_nil)))) pss_nil)
    (pss_one (ps_expr (pe_bm PySem.F.plainAttrs_list PySem.F.slot_list_append PySem.F.type_list_append mt_append (pv 2) (pa_cons (pe_ix (r := rIx K) ix_seq (pv 0) (pv 3) (fun _ _ => rfl)) pa_nil))))))
    (pss_one (ps_ret (pe_callTy (r := rTupOf K) call_tupY (by rfl) T.tuple (by decide +kernel) (pa_cons (pe_callB (r := rSortedI K) cr_sortedI (by rfl) T.sorted (by decide +kernel) (pa_cons (pv 2) pa_nil)) pa_nil)))))))), ?_, ?_⟩
  · rintro ds d ⟨l, n, sq, hn, hl, hs, rfl, rfl⟩ De o
    obtain ⟨ty, ht, hty⟩ := hs.ty
    obtain ⟨_, _, k1, k2⟩ := kit_int (tyN_mem ht)
    refine sd_seq (sd_drop (ep_call (ea_cons (ep_var rfl) ea_nil) ⟨n, hn, rfl, rfl⟩) (sd_go ?_))
    refine sd_seq (sd_if (et_not (et_B (ep_isiT (ep_var rfl) ht k1 k2))) (fun h => ?_) (fun h => ?_))
    · rw [hty] at h
      cases h
    refine sd_go (sd_seq (sd_asgO (ef_lst ea_nil) rfl fun p => sd_go ?_))
    have hlen : ((l.map iD).length : Int) = (l.length : Int) := by rw [List.length_map]
    refine sd_seq (sd_forRP (n := (l.length : Int)) (fun _ => True) (ea_cons (ep_is (ep_cb (ea_cons (ep_var rfl) ea_nil) hs.len) (by rw [hlen])) ea_nil) (by have := hl.len; omega) (fun i => [.val sq, .val (iD n), .own p ((l.take i).map iD), .no]) rfl trivial (fun i hi _ => ?_) (fun _ => sd_go ?_))
    · have hi' : i < l.length := by omega
      have e1 : (l.map iD)[i]? = some (iD l[i]) := by rw [List.getElem?_map, List.getElem?_eq_getElem hi']; rfl
      have hlt : l[i] < n := hl.lt _ (List.getElem_mem hi')
      have hnm : l[i] ∉ l.take i := nodup_take hl.nd (List.getElem?_eq_getElem hi')
      have ix : ∀ {Z : Hp → Prop}, EP K [] H Z (tOp (rIx K) (tVar 0) (tVar 3)) [.val sq, .val (iD n), .own p ((l.take i).map iD), .val (.int i)] (iD l[i]) := ep_op (ep_var rfl) (ep_var (d := iD i) rfl) (hs.ix e1)
      refine sd_seq (sd_if (et_or (et_not (et_B (ep_call (ea_cons ix (ea_cons (ep_var rfl) ea_nil)) ⟨iD l[i], n, rfl, rfl, rfl⟩))) fun _ => et_test (ep_op ix (ep_own rfl) in_own)) (fun h => ?_) (fun h => sd_go ?_))
      · rw [isTh_nat, decide_eq_true hlt, decide_eq_false hnm] at h
        cases h
      · refine sd_app (p := p) rfl ix rfl (by rw [List.length_map, List.length_take]; have := hl.len; omega) (sd_lp trivial ?_)
        rw [List.take_add_one, List.getElem?_eq_getElem hi']
        simp only [Option.toList, List.map_append, List.map_cons, List.map_nil]
        exact .eq (.eq (.eq (.no .nil)))
    · have e2 : ((l.length : Int)).toNat = l.length := by omega
      rw [e2, List.take_length]
      refine sd_ret (ep_is (ep_cb (ea_cons (EF.p (ef_cb (ea_cons (ep_own rfl) ea_nil) rf_sortedN)) ea_nil) rc_tupleL) ?_) o.rt
      rw [tD_eq]
  · rintro ds C m ⟨rfl, n, hn, hq⟩ De o
    rcases hq with ⟨rfl, rfl⟩ | ⟨l, e, r, sq, hl, hr2, he, hbad, hs, rfl, rfl⟩
    · refine sd_seq (sd_drop (ep_call (ea_cons (ep_var rfl) ea_nil) ⟨n, hn, rfl, rfl⟩) (sd_go ?_))
      refine sd_seq (sd_if (et_not (et_B (ep_isiT (d := .non) (ty := "NoneType") (r2 := false) (r3 := false) (ep_var rfl) rfl (by decide +kernel) (by decide +kernel)))) (fun h => ?_) (fun h => ?_))
      · exact sd_raise (ea_cons (ep_un (x := .int 1) ep_int r1_neg) ea_nil) (by decide) (wx_of o)
      · cases h
    · obtain ⟨ty, ht, hty⟩ := hs.ty
      obtain ⟨_, _, k1, k2⟩ := kit_int (tyN_mem ht)
      refine sd_seq (sd_drop (ep_call (ea_cons (ep_var rfl) ea_nil) ⟨n, hn, rfl, rfl⟩) (sd_go ?_))
      refine sd_seq (sd_if (et_not (et_B (ep_isiT (ep_var rfl) ht k1 k2))) (fun h => ?_) (fun h => ?_))
      · rw [hty] at h
        cases h
      refine sd_go (sd_seq (sd_asgO (ef_lst ea_nil) rfl fun p => sd_go ?_))
      have hlen : ((l.map iD ++ e :: r).length : Int) = ((l.length + r.length + 1 : Nat) : Int) := by simp; omega
      refine sd_seq (sd_forRP (n := ((l.length + r.length + 1 : Nat) : Int)) (fun i => i ≤ l.length) (ea_cons (ep_is (ep_cb (ea_cons (ep_var rfl) ea_nil) hs.len) (by rw [hlen])) ea_nil) (by have := hl.len; omega) (fun i => [.val sq, .val (iD n), .own p ((l.take i).map iD), .no]) rfl (Nat.zero_le _) (fun i hi hp => ?_) (fun hp => by omega))
      by_cases hi' : i < l.length
      · have e1 : (l.map iD ++ e :: r)[i]? = some (iD l[i]) := by rw [List.getElem?_append_left (by simpa using hi'), List.getElem?_map, List.getElem?_eq_getElem hi']; rfl
        have hlt : l[i] < n := hl.lt _ (List.getElem_mem hi')
        have hnm : l[i] ∉ l.take i := nodup_take hl.nd (List.getElem?_eq_getElem hi')
        have ix : ∀ {Z : Hp → Prop}, EP K [] H Z (tOp (rIx K) (tVar 0) (tVar 3)) [.val sq, .val (iD n), .own p ((l.take i).map iD), .val (.int i)] (iD l[i]) := ep_op (ep_var rfl) (ep_var (d := iD i) rfl) (hs.ix e1)
        refine sd_seq (sd_if (et_or (et_not (et_B (ep_call (ea_cons ix (ea_cons (ep_var rfl) ea_nil)) ⟨iD l[i], n, rfl, rfl, rfl⟩))) fun _ => et_test (ep_op ix (ep_own rfl) in_own)) (fun h => ?_) (fun h => sd_go ?_))
        · rw [isTh_nat, decide_eq_true hlt, decide_eq_false hnm] at h
          cases h
        · refine sd_app (p := p) rfl ix rfl (by rw [List.length_map, List.length_take]; have := hl.len; omega) (sd_lp (by omega) ?_)
          rw [List.take_add_one, List.getElem?_eq_getElem hi']
          simp only [Option.toList, List.map_append, List.map_cons, List.map_nil]
          exact .eq (.eq (.eq (.no .nil)))
      · have hil : i = l.length := by omega
        subst hil
        have e1 : (l.map iD ++ e :: r)[l.length]? = some e := by rw [List.getElem?_append_right (by simp)]; simp
        have ix : ∀ {Z : Hp → Prop}, EP K [] H Z (tOp (rIx K) (tVar 0) (tVar 3)) [.val sq, .val (iD n), .own p ((l.take l.length).map iD), .val (.int l.length)] e := ep_op (ep_var rfl) (ep_var (d := iD l.length) rfl) (hs.ix e1)
        have raise : ∀ {Z : Hp → Prop} {D' : Ends}, SD K [] H Z (fun _ σ H => tExc C (tCons (tVar 3) tNil) σ H fun cls d H' => E cls d H') D' [.val sq, .val (iD n), .own p ((l.take l.length).map iD), .val (.int l.length)] := sd_raise (ea_cons (ep_var rfl) ea_nil) (by have := hl.len; omega) (wx_of o)
        rcases hbad with hb | ⟨x, hx, rfl⟩
        · refine sd_seq (sd_if (b := true) (et_is (et_or (c := false) (et_not (et_B (ep_call (ea_cons ix (ea_cons (ep_var rfl) ea_nil)) ⟨e, n, he, rfl, rfl⟩))) fun h => by rw [hb] at h; cases h) (by rw [hb]; rfl)) (fun h => raise) (fun h => by cases h))
        · refine sd_seq (sd_if (et_or (et_not (et_B (ep_call (ea_cons ix (ea_cons (ep_var rfl) ea_nil)) ⟨iD x, n, rfl, rfl, rfl⟩))) fun _ => et_test (ep_op ix (ep_own rfl) in_own)) (fun h => raise) (fun h => ?_))
          rw [List.take_length, decide_eq_true hx, Bool.or_true] at h
          cases h
end
end Y
set_option Elab.async false
set_option linter.all false
set_option autoImplicit false
set_option maxRecDepth 100000
set_option maxHeartbeats 4000000
namespace Y
open PySem L2
/-- the class Family -/
structure FamC (K : PySem.W.Frag) (mg : Str → Option Value) (C : Addr) : Prop where
  ob : ObjC K C
  nt : NoAttr K C "things"
  nl : NoAttr K C "lots"
  m : mg "Family" = some (.ref C)
def famD (C : Addr) (n : Nat) (ls : List (List Nat)) : D := .ins C ["things", "lots"] [iD n, tsD ls]
/-- what a family is made of -/
structure InOk (n : Nat) (ls : List (List Nat)) : Prop where
  n1 : 1 ≤ n
  n2 : n ≤ 60
  ne : ls ≠ []
  len : ls.length < 1000
  lne : ∀ l ∈ ls, l ≠ []
  asc : ∀ l ∈ ls, KM.Asc l
  lt : ∀ l ∈ ls, ∀ x ∈ l, x < n
theorem asc_len : ∀ {l : List Nat} {n : Nat}, KM.Asc l → (∀ x ∈ l, x < n) → l.length ≤ n := fun {l n} a h => by
  have e : l = (List.range n).filter (fun x => decide (x ∈ l)) := KM.asc_ext a ((KM.range_asc n).filter _) fun x => by
    rw [List.mem_filter, List.mem_range, decide_eq_true_iff]
    exact ⟨fun hx => ⟨h x hx, hx⟩, fun hx => hx.2⟩
  have := List.length_filter_le (fun x => decide (x ∈ l)) (List.range n)
  rw [← e, List.length_range] at this
  exact this
theorem InOk.lots {n : Nat} {ls : List (List Nat)} (h : InOk n ls) : Lots ls := ⟨h.len, fun l hl => ⟨fun x hx => by have := h.lt l hl x hx; have := h.n2; omega, by have := asc_len (h.asc l hl) (h.lt l hl); have := h.n2; omega⟩, h.asc, h.lne⟩
theorem InOk.row {n : Nat} {ls : List (List Nat)} (h : InOk n ls) {l : List Nat} (hl : l ∈ ls) : Row n l := ⟨by have := asc_len (h.asc l hl) (h.lt l hl); have := h.n2; omega, (h.asc l hl).imp fun h => Nat.ne_of_lt h, h.lt l hl⟩
theorem sortN_asc {l : List Nat} (h : KM.Asc l) : KM.sortN l = l := by
  unfold KM.sortN
  exact List.mergeSort_of_pairwise (h.imp fun {a b} hab => decide_eq_true (Nat.le_of_lt hab))
/-- named defs that may raise; methods that may raise -/
structure ClX (P : Program) (w : World) (K : PySem.W.Frag) (mg : Str → Option Value) (base : Heap) (k : Nat) (x : Str) (sp : Sp) : Prop where
  ex : ∃ (f : Addr) (fd : FuncData) (ps : List Str), FnOk P w K mg base (L2.CX P w) k f fd ps sp ∧ mg x = some (.ref f) ∧ PySem.W.keepIn K (.ref f) = true ∧ Binds K fd ps []
structure ClM (P : Program) (w : World) (K : PySem.W.Frag) (mg : Str → Option Value) (base : Heap) (k : Nat) (C : Addr) (m : Str) (sp : Sp) : Prop where
  ex : ∃ (f : Addr) (fd : FuncData) (ps : List Str), FnOk P w K mg base (L2.CX P w) k f fd ps sp ∧ Meth K C m f ∧ Binds K fd ps []
structure ClI (P : Program) (w : World) (K : PySem.W.Frag) (mg : Str → Option Value) (base : Heap) (k : Nat) (C : Addr) (x : Str) (sp : Sp) : Prop where
  ex : ∃ (f : Addr) (fd : FuncData) (ps : List Str), FnOk P w K mg base CX0 k f fd ps sp ∧ Mk K C f ∧ mg x = some (.ref C) ∧ Binds K fd ps []
/-- an operator of the class at C -/
structure ClO (P : Program) (w : World) (K : PySem.W.Frag) (mg : Str → Option Value) (base : Heap) (k : Nat) (C : Addr) (m : Str) (sp : Sp) : Prop where
  ex : ∃ (f : Addr) (fd : FuncData) (ps : List Str), FnOk P w K mg base CX0 k f fd ps sp ∧ PySem.W.findIn K (.ref C) m = some (some (.ref f)) ∧ PySem.W.isFn K (.ref f) = true ∧ Binds K fd ps []
section
variable {P : Program} {w : World} {K : PySem.W.Frag} {mg : Str → Option Value} {base : Heap} {k j : Nat} {x m : Str} {C : Addr} {sp : Sp}
theorem ClX.cl (c : ClX P w K mg base k x sp) : Cl P w K mg base k x sp := by
  obtain ⟨f, fd, ps, F, h⟩ := c.ex
  exact ⟨f, fd, ps, .inr F, h⟩
end
section
variable {X : Cx} {k j : Nat} {C : Addr} {x m : Str} {sp : Sp} {p pos apos : Pos} {e o : Expr} {es : List Expr} {ta : TE} {t : TA} {W : L2.WX}
theorem pe_clX (c : ClX X.prog X.w X.K X.mg X.base k x sp) (hr : Room j X.A) (hk : k ≤ j) (hg : Gl X x) (tk : L2.Takes X W) (ha : PA X (e :: es) t)
    (hdb : (x == ("__debug__" : Str)) = false := by decide) (he : starEach (e :: es) X.env = (false, eval e X.env) :: starEach es X.env := by rfl) (hpl : (backTo pos (starEach es X.env)).any (·.1) = false := by rfl) :
    PE X (.Call (.Name x p) (e :: es) [] pos) (tCallS sp (WE W) t) := by
  obtain ⟨f, fd, ps, F, hm, kp, b⟩ := c.ex
  exact pe_callS F (hr.mono hk) hg hm kp b (passAt tk) ha hdb he hpl
theorem pe_clM {pl : Sem Bool} (c : ClM X.prog X.w X.K X.mg X.base k C m sp) (hc : Cls X.K C) (hr : Room j X.A) (hk : k ≤ j) (tk : L2.Takes X W) (he : PE X o ta) (ha : PA X (e :: es) t)
    (hst : starEach (e :: es) X.env = (false, eval e X.env) :: starEach es X.env := by rfl) (hpl : (backTo pos (starEach es X.env)).any (·.1) = false := by rfl)
    (ht : eval (.Call (.Attribute o m apos) (e :: es) [] pos) X.env = (do
      let ov ← eval o X.env
      standAt apos.atName
      let (fm, first) ← holding [ov] (getMethod ov m pl)
      callWith pos fm first (backTo pos (starEach (e :: es) X.env)) (backToKw pos (keywordEach [] X.env))) := by rfl) :
    PE X (.Call (.Attribute o m apos) (e :: es) [] pos) (tMeS C m sp (WE W) ta t) := by
  obtain ⟨f, fd, ps, F, hm, b⟩ := c.ex
  exact pe_meS he hc hm F (hr.mono hk) b (passAt tk) ha hst hpl ht
theorem pe_clI (c : ClI X.prog X.w X.K X.mg X.base k C x sp) (hr : Room j X.A) (hk : k + 1 ≤ j) (hg : Gl X x) (ha : PA X (e :: es) t)
    (hdb : (x == ("__debug__" : Str)) = false := by decide) (he : starEach (e :: es) X.env = (false, eval e X.env) :: starEach es X.env := by rfl) (hpl : (backTo pos (starEach es X.env)).any (·.1) = false := by rfl) :
    PE X (.Call (.Name x p) (e :: es) [] pos) (tMake C sp [] E0 t) := by
  obtain ⟨f, fd, ps, F, M, hm, b⟩ := c.ex
  exact pe_make M F (hr.mono hk) hg hm b .nil pass0 ha hdb he hpl
theorem un_clO (c : ClO X.prog X.w X.K X.mg X.base k C "__invert__" sp) (hr : Room j X.A) (hk : k ≤ j) : UnR X (unaryOp .Invert) (rInv C sp) := by
  obtain ⟨f, fd, ps, F, hs, hf, b⟩ := c.ex
  exact un_invO hs hf F (hr.mono hk) b
theorem op_clO (c : ClO X.prog X.w X.K X.mg X.base k C "__eq__" sp) (hn : PySem.W.notFirst X.K C (.ref C) = true) (hr : Room j X.A) (hk : k ≤ j) : OpR X (compareOp .Eq) (rEqO X.K C sp) := by
  obtain ⟨f, fd, ps, F, hs, hf, b⟩ := c.ex
  exact op_eqO hn hs hf F (hr.mono hk) b
end
section
variable {P : Program} {w : World} {K : PySem.W.Frag} {mg : Str → Option Value} {base : Heap}
/-! ask_things -/
abbrev s_ask_things : Stmt := topS 32
abbrev N_ask_things : List Str := ["things"]
theorem sc_ask_things : FnScope N_ask_things ["things"] (defScope s_ask_things) := ⟨rfl, rfl, rfl, by decide +kernel, rfl, by decide +kernel, by decide +kernel⟩
def p_ask_things (ds : List D) (d : D) : Prop := ∃ n : Nat, 1 ≤ n ∧ n ≤ 60 ∧ ds = [iD n] ∧ d = .non
theorem ok_ask_things {f : Addr} {fd : FuncData} {tM : Tok} (F : Fun K "ask_things" "ask_things" s_ask_things f fd) (T : Txt mg) (hM : mg "MOST_THINGS" = some (.int 60 tM)) (c_is_integer : Cl P w K mg base 1 "is_integer" (Pure K p_is_integer)) : FnOk P w K mg base CX0 2 f fd ["things"] (Pure K p_ask_things) := by
  refine pure_ok F sc_ask_things (fun ds d h => by obtain ⟨_, _, _, rfl, _⟩ := h; rfl) (by decide) fun cdv A outer s H E hr => ?_
  refine ⟨_, (pss_one (ps_if (pw_or (pt_not (pt_val (pe_cl c_is_integer hr (by decide) (by rfl) (pa_cons (pv 0) (pa_cons pe_int pa_nil))))) (pw_or1 (pt_cmpR op_gt (pv 0) (pe_glob (v := .int 60) (by rfl) hM ⟨_, rfl⟩) (nomark _)))).pt pss_never pss_nil)), ?_⟩
  rintro ds d ⟨n, hn, hn2, rfl, rfl⟩ De o
  have e : isInt (iD n) 1 = true := by simp [isInt, iD]; omega
  have e2 : decide ((60 : Int) < (n : Int)) = false := decide_eq_false (by omega)
  refine sd_if (et_or (et_not (et_B (ep_call (ea_cons (ep_var rfl) (ea_cons ep_int ea_nil)) ⟨iD n, 1, rfl, rfl, rfl⟩))) fun _ => et_test (ep_op (ep_var rfl) ep_int (r2_cmp (g := fun i j => decide (j < i))))) (fun h => ?_) (fun h => ?_)
  · rw [e, e2] at h
    cases h
  · exact sd_end o
/-! checked_lot -/
abbrev s_checked_lot : Stmt := topS 33
abbrev N_checked_lot : List Str := ["lot", "place", "things", "found"]
theorem sc_checked_lot : FnScope N_checked_lot ["lot", "place", "things"] (defScope s_checked_lot) := ⟨rfl, rfl, rfl, by decide +kernel, rfl, by decide +kernel, by decide +kernel⟩
def p_checked_lot (ds : List D) (d : D) : Prop := ∃ (l : List Nat) (n i : Nat), 1 ≤ n ∧ Row n l ∧ l ≠ [] ∧ ds = [tD l, iD i, iD n] ∧ d = tD (KM.sortN l)
theorem ok_checked_lot {f : Addr} {fd : FuncData} {CB : Addr} (F : Fun K "checked_lot" "checked_lot" s_checked_lot f fd) (T : Txt mg) (c_set_of : Cl P w K mg base 3 "set_of" (PureX K p_set_of (q_set_of CB))) : FnOk P w K mg base CX0 4 f fd ["lot", "place", "things"] (Pure K p_checked_lot) := by
  refine pure_ok F sc_checked_lot (fun ds d h => by obtain ⟨_, _, _, _, _, _, rfl, _⟩ := h; rfl) (by decide) fun cdv A outer s H E hr => ?_
  refine ⟨_, (pss_cons (ps_try_thru0 (pss_one (ps_set (i := 3) sc_checked_lot.nd rfl (Or.inl rfl) (pe_cl c_set_of hr (by decide) (by rfl) (pa_cons (pv 0) (pa_cons (pv 2) pa_nil))))))
    (pss_cons (ps_if (pt_cmpR op_eq (pe_callB (r := rLen K) call_lenY (by rfl) T.len PySem.boot_len (pa_cons (pv 3) pa_nil)) pe_int (nomark _)) pss_never pss_nil)
    (pss_one (ps_ret (pv 3))))), ?_⟩
  rintro ds d ⟨l, n, i, hn, hl, hne, rfl, rfl⟩ De o
  refine sd_seq (sd_asg (ep_callX (ea_cons (ep_var rfl) (ea_cons (ep_var rfl) ea_nil)) ⟨l, n, tD l, hn, hl, .inl (tD_eq l), rfl, rfl⟩) (tD_im _) (sd_go ?_))
  have hz : (KM.sortN l).length ≠ 0 := by
    rw [(KM.sortN_perm l).length_eq]
    exact fun z => hne (List.length_eq_zero_iff.mp z)
  refine sd_seq (sd_if (et_test (ep_op (ep_is (ep_cb (ea_cons (ep_var (d := .tup ((KM.sortN l).map iD)) (by rw [← tD_eq]; rfl)) ea_nil) rc_lenTn) rfl) ep_n0 r2_eqN)) (fun h => ?_) (fun h => sd_go ?_))
  · exact absurd (by simpa using h) hz
  · exact sd_ret (ep_var rfl) o.rt
/-! Family.init -/
abbrev s_Family_init : Stmt := inClass (topS 35) 0
abbrev N_Family_init : List Str := ["self", "things", "lots", "found", "place"]
theorem sc_Family_init : FnScope N_Family_init ["self", "things", "lots"] (defScope s_Family_init) := ⟨rfl, rfl, rfl, by decide +kernel, rfl, by decide +kernel, by decide +kernel⟩
def p_init (ds : List D) (ns : List Str) (l : List D) : Prop := ∃ (n : Nat) (ls : List (List Nat)) (s : D), InOk n ls ∧ Seq s (ls.map tD) ∧ ds = [iD n, s] ∧ ns = (["things", "lots"] : List Str) ∧ l = [iD n, tsD (KM.leastLots ls)]
theorem Seq.clean {s : D} {l : List D} (h : Seq s l) (im : imAll l = true) : True := trivial
theorem ok_init {f C : Addr} {fd : FuncData} (F : Fun K "__init__" "Family.__init__" s_Family_init f fd) (T : Txt mg) (fc : FamC K mg C) (c_ask_things : Cl P w K mg base 2 "ask_things" (Pure K p_ask_things)) (c_checked_lot : Cl P w K mg base 4 "checked_lot" (Pure K p_checked_lot))
    (c_least_lots : Cl P w K mg base 3 "least_lots" (Pure K p_least_lots)) : FnOk P w K mg base CX0 5 f fd ["self", "things", "lots"] (InitP K C p_init) := by
  refine init_ok F sc_Family_init (fun ds ns l h => by obtain ⟨_, _, _, _, _, rfl, _⟩ := h; rfl) (by decide) fun cdv A outer s H E hr => ?_
  refine ⟨_, (pss_cons (ps_expr (pe_cl c_ask_things hr (by decide) (by rfl) (pa_cons (pv 1) pa_nil)))
    (pss_cons (ps_if (pt_not (pt_val (pe_callB (r := rIsiT K) call_isiT (by rfl) T.isinstance (by decide +kernel) (pa_cons (pv 2) (pa_cons (pe_tup (pa_cons (pe_bltn (v := .ty "list") (by rfl) T.list (by decide +kernel) rfl) (pa_cons (pe_bltn (v := .ty "tuple") (by rfl) T.tuple (by decide +kernel) rfl) pa_nil))) pa_nil))))) pss_never pss_nil)
    (pss_cons (ps_setLc (i := 3) (own := [("place", 4)]) (g := gName 4) rfl sc_Family_init.nd rfl rfl (sw_true rfl rfl rfl (by decide +kernel)) (pi_range1 (by rfl) T.range (pa_cons (pe_callB (r := rLen K) call_lenY (by rfl) T.len PySem.boot_len (pa_cons (pv 2) pa_nil)) pa_nil)) (blkOk_by (N := N_Family_init) (sc := defScope s_Family_init) (by decide +kernel)) (fun _ _ _ _ _ => pg_name (i := 4) sc_Family_init.nd rfl (Or.inl rfl)) (fun _ _ _ _ _ => pts_nil) (fun _ _ _ _ _ => (pe_cl c_checked_lot hr (by decide) (by rfl) (pa_cons (pe_ix (r := rIx K) ix_seq (pv 2) (pv 4) (fun _ _ => rfl)) (pa_cons (pv 4) (pa_cons (pv 1) pa_nil))))))
    (pss_cons (ps_if (pt_cmpR op_eq (pe_callB (r := rLen K) call_lenY (by rfl) T.len PySem.boot_len (pa_cons (pv 3) pa_nil)) pe_int (nomark _)) pss_never pss_nil)
    (pss_cons (ps_fld (pv 0) (pv 1) rfl)
    (pss_one (ps_fld (pv 0) (pe_cl c_least_lots hr (by decide) (by rfl) (pa_cons (pv 3) pa_nil)) rfl))))))), ?_⟩
  rintro ds ns l a dx ⟨n, ls, sq, hi, hs, rfl, rfl, rfl⟩ De o
  obtain ⟨ty, ht, hty⟩ := hs.ty
  obtain ⟨_, _, k1, k2⟩ := kit_int (tyN_mem ht)
  refine sd_seq (sd_drop (ep_call (ea_cons (ep_var rfl) ea_nil) ⟨n, hi.n1, hi.n2, rfl, rfl⟩) (sd_go ?_))
  refine sd_seq (sd_if (et_not (et_B (ep_isiT (ep_var rfl) ht k1 k2))) (fun h => ?_) (fun h => ?_))
  · rw [hty] at h
    cases h
  refine sd_go ?_
  have hl2 := hi.len
  have e0 : EF K [a] H (ZI K a C dx [] []) (tLc (iRng1 (tCons (tCB (rLen K) (tCons (tVar 2) tNil)) tNil)) (gName 4) tYes (tCall (Pure K p_checked_lot) [] E0 (tCons (tOp (rIx K) (tVar 2) (tVar 4)) (tCons (tVar 4) (tCons (tVar 1) tNil)))) [4]) (entry N_Family_init [.adr a, iD n, sq]) (ls.map tD) := by
    have h1 := ef_lcR1 (K := K) (B := [a]) (H0 := H) (Z := ZI K a C dx [] []) (E := entry N_Family_init [.adr a, iD n, sq]) (j := 4) (n := (ls.length : Int)) (te := tCall (Pure K p_checked_lot) [] E0 (tCons (tOp (rIx K) (tVar 2) (tVar 4)) (tCons (tVar 4) (tCons (tVar 1) tNil)))) (fun i => tD (ls.getD i [])) (ea_cons (ep_is (ep_cb (ea_cons (ep_var (i := 2) rfl) ea_nil) hs.len) (by rw [List.length_map])) ea_nil) (by omega) (fun i hi' => ?_) (fun _ _ => tD_im _)
    · have e3 : (List.range ((ls.length : Int)).toNat).map (fun i => tD (ls.getD i [])) = ls.map tD := by
        have : ((ls.length : Int)).toNat = ls.length := by omega
        rw [this]
        refine List.ext_getElem (by simp) fun i h1 h2 => ?_
        have hlt : i < ls.length := by simpa using h2
        simp [List.getD, List.getElem?_eq_getElem hlt]
      rw [e3] at h1
      exact h1
    · have hlt : i < ls.length := by omega
      have e1 : (ls.map tD)[i]? = some (tD ls[i]) := by rw [List.getElem?_map, List.getElem?_eq_getElem hlt]; rfl
      have e2 : ls.getD i [] = ls[i] := by simp [List.getD, List.getElem?_eq_getElem hlt]
      have hm := List.getElem_mem hlt
      have h3 : KM.sortN ls[i] = ls[i] := sortN_asc (hi.asc _ hm)
      rw [e2]
      refine ep_call (ea_cons (ep_op (ep_var rfl) (ep_var (d := iD i) rfl) (hs.ix e1)) (ea_cons (ep_var (d := iD i) rfl) (ea_cons (ep_var rfl) ea_nil))) ⟨ls[i], n, i, hi.n1, hi.row hm, hi.lne _ hm, rfl, by rw [h3]⟩
  refine sd_seq (sd_asgL e0 (imAll_tD _) (sd_go ?_))
  refine sd_seq (sd_if (et_test (ep_op (ep_is (ep_cb (ea_cons (ep_var (d := .lst (ls.map tD)) rfl) ea_nil) rc_lenLn) rfl) ep_n0 r2_eqN)) (fun h => ?_) (fun h => sd_go ?_))
  · exact absurd (by simpa using h) (fun z => hi.ne (List.length_eq_zero_iff.mp z))
  have nbT : ∀ l : List Nat, (tD l).nob = true := fun l => by
    rw [tD_eq]
    show nobAll _ = true
    exact nobAll_iff.mpr fun d hd => by obtain ⟨x, _, rfl⟩ := List.mem_map.mp hd; rfl
  have nbL : ∀ ls : List (List Nat), nobAll (ls.map tD) = true := fun ls => nobAll_iff.mpr fun d hd => by obtain ⟨x, _, rfl⟩ := List.mem_map.mp hd; exact nbT x
  have nbS : sq.nob = true := by
    rcases hs with rfl | rfl
    · exact nbL ls
    · exact nbL ls
  have hE : ∀ s ∈ (entry N_Family_init [.adr a, iD n, sq]).set 3 (.val (.lst (ls.map tD))), nobS s = true := fun s hs => by
    have : s ∈ [Slot.val (.adr a), .val (iD n), .val sq, .val (.lst (ls.map tD)), .no] := hs
    simp only [List.mem_cons, List.not_mem_nil, or_false] at this
    rcases this with rfl | rfl | rfl | rfl | rfl
    · rfl
    · rfl
    · exact nbS
    · exact nbL ls
    · rfl
  refine sd_seq (sd_fld (ep_var rfl) (ep_var (d := iD n) rfl) fc.ob.cl fc.nt hE rfl rfl rfl (by simp) (by simp) (sd_go ?_))
  refine sd_fld (ep_var rfl) (ep_call (ea_cons (ep_var (d := lsD ls) rfl) ea_nil) ⟨ls, hi.lots, rfl, rfl⟩) fc.ob.cl fc.nl hE (tsD_im _) (nbL _) rfl (by decide) (by simp) ?_
  exact sd_endI o
/-! Family.eq -/
abbrev s_Family_eq : Stmt := inClass (topS 35) 4
abbrev N_Family_eq : List Str := ["self", "other"]
theorem sc_Family_eq : FnScope N_Family_eq ["self", "other"] (defScope s_Family_eq) := ⟨rfl, rfl, rfl, by decide +kernel, rfl, by decide +kernel, by decide +kernel⟩
def p_eq (C : Addr) (ds : List D) (d : D) : Prop := ∃ (n n' : Nat) (ls ls' : List (List Nat)), ds = [famD C n ls, famD C n' ls'] ∧ d = .bl (n == n' && decide (ls = ls'))
theorem ok_eq {f C : Addr} {fd : FuncData} (F : Fun K "__eq__" "Family.__eq__" s_Family_eq f fd) (T : Txt mg) (fc : FamC K mg C) : FnOk P w K mg base CX0 1 f fd ["self", "other"] (Pure K (p_eq C)) := by
  refine pure_ok F sc_Family_eq (fun ds d h => by obtain ⟨_, _, _, _, rfl, _⟩ := h; rfl) (by decide) fun cdv A outer s H E hr => ?_
  have hu := hr.units
  refine ⟨_, (pss_one (ps_ret (pe_and (pe_callB (r := rIsi K) call_isi (by rfl) T.isinstance (by decide +kernel) (pa_cons (pv 1) (pa_cons (pe_glob (v := .ref C) (by rfl) fc.m rfl) pa_nil))) (pe_and (pe_cmpR op_eq (pe_fld (pv 0) rfl) (pe_fld (pv 1) rfl) (nomark _)) (pe_one (pe_cmpR (r := rEqD K) (op_eqD hu) (pe_fld (pv 0) rfl) (pe_fld (pv 1) rfl) (nomark _))))))), ?_⟩
  rintro ds d ⟨n, n', ls, ls', rfl, rfl⟩ De o
  refine sd_ret (ep_is (ep_andV (c := (n == n' && decide (ls = ls'))) (ep_isiO (ep_var rfl) fc.ob) fun _ => ep_andV (ep_op (ep_fld (ep_var rfl) fc.ob.cl fc.nt rfl) (ep_fld (ep_var rfl) fc.ob.cl fc.nt rfl) r2_eqN) fun _ => ep_op (ep_fld (ep_var rfl) fc.ob.cl fc.nl rfl) (ep_fld (ep_var rfl) fc.ob.cl fc.nl rfl) (r2_eqD (lsD_cmp ls).2 (lsD_cmp ls').2 ?_)) (by simp)) o.rt
  rw [decide_eq_true_iff]
  unfold tsD
  rw [D.tup.injEq, map_tD_inj]
/-! Family.invert -/
abbrev s_Family_invert : Stmt := inClass (topS 35) 10
abbrev N_Family_invert : List Str := ["self"]
theorem sc_Family_invert : FnScope N_Family_invert ["self"] (defScope s_Family_invert) := ⟨rfl, rfl, rfl, by decide +kernel, rfl, by decide +kernel, by decide +kernel⟩
/-- ~ may be asked -/
structure InvOk (n : Nat) (ls : List (List Nat)) : Prop where
  i : InOk n ls
  kept : ∀ i, (keptAt ls i).length < 1000
  o : InOk n (KM.blockerLots ls)
def p_invert (C : Addr) (ds : List D) (d : D) : Prop := ∃ (n : Nat) (ls : List (List Nat)), InvOk n ls ∧ ds = [famD C n ls] ∧ d = famD C n (KM.leastLots (KM.blockerLots ls))
theorem ok_invert {f C : Addr} {fd : FuncData} (F : Fun K "__invert__" "Family.__invert__" s_Family_invert f fd) (T : Txt mg) (fc : FamC K mg C) (c_Family : ClI P w K mg base 5 C "Family" (InitP K C p_init)) (c_blocker_lots : Cl P w K mg base 3 "blocker_lots" (Pure K p_blocker_lots)) :
    FnOk P w K mg base CX0 7 f fd ["self"] (Pure K (p_invert C)) := by
  refine pure_ok F sc_Family_invert (fun ds d h => by obtain ⟨_, _, _, rfl, _⟩ := h; rfl) (by decide) fun cdv A outer s H E hr => ?_
  refine ⟨_, (pss_one (ps_ret (pe_clI c_Family hr (by decide) (by rfl) (pa_cons (pe_fld (pv 0) rfl) (pa_cons (pe_cl c_blocker_lots hr (by decide) (by rfl) (pa_cons (pe_fld (pv 0) rfl) pa_nil)) pa_nil))))), ?_⟩
  rintro ds d ⟨n, ls, hi, rfl, rfl⟩ De o
  exact sd_ret (ep_make (ea_cons (ep_fld (ep_var rfl) fc.ob.cl fc.nt rfl) (ea_cons (ep_call (ea_cons (ep_fld (ep_var rfl) fc.ob.cl fc.nl rfl) ea_nil) ⟨ls, hi.i.lots, hi.kept, rfl, rfl⟩) ea_nil)) ⟨n, _, _, hi.o, .inl rfl, rfl, rfl, rfl⟩) o.rt
/-! Family.holds -/
abbrev s_Family_holds : Stmt := inClass (topS 35) 14
abbrev N_Family_holds : List Str := ["self", "things", "mask", "lot"]
theorem sc_Family_holds : FnScope N_Family_holds ["self", "things"] (defScope s_Family_holds) := ⟨rfl, rfl, rfl, by decide +kernel, rfl, by decide +kernel, by decide +kernel⟩
def holdsM (ls : List (List Nat)) (f : List Nat) : Bool := ls.any fun l => KM.maskOf l &&& KM.maskOf (KM.sortN f) == KM.maskOf l
def p_holds (C : Addr) (ds : List D) (d : D) : Prop := ∃ (n : Nat) (ls : List (List Nat)) (f : List Nat) (s : D), InOk n ls ∧ Row n f ∧ Seq s (f.map iD) ∧ ds = [famD C n ls, s] ∧ d = .bl (holdsM ls f)
def q_holds (C CB : Addr) (ds : List D) (C' : Addr) (m : Int) : Prop := ∃ (n : Nat) (ls : List (List Nat)) (s : D), InOk n ls ∧ ds = [famD C n ls, s] ∧ q_set_of CB [s, iD n] C' m
theorem ok_holds {f C CB : Addr} {fd : FuncData} (F : Fun K "holds" "Family.holds" s_Family_holds f fd) (T : Txt mg) (fc : FamC K mg C) (c_mask_of : Cl P w K mg base 1 "mask_of" (Pure K p_mask_of)) (c_set_of : ClX P w K mg base 3 "set_of" (PureX K p_set_of (q_set_of CB))) :
    FnOk P w K mg base (L2.CX P w) 4 f fd ["self", "things"] (PureX K (p_holds C) (q_holds C CB)) := by
  refine purex_ok F sc_Family_holds (fun ds h => by
    rcases h with ⟨d, _, _, _, _, _, _, _, rfl, _⟩ | ⟨_, _, _, _, _, _, rfl, _⟩ <;> rfl) (by decide) fun cdv A outer s H E hr => ?_
  have tk : L2.Takes (cxOf (L2.CX P w) P w K mg base N_Family_holds "Family.holds" (defScope s_Family_holds) f cdv A outer s H E) (fun cls d _ H => E cls d H) := takes_of rfl rfl rfl rfl
  refine ⟨_, (pss_cons (ps_set (i := 2) sc_Family_holds.nd rfl (Or.inr rfl) (pe_cl c_mask_of hr (by decide) (by rfl) (pa_cons (pe_clX c_set_of hr (by decide) (by rfl) tk (pa_cons (pv 1) (pa_cons (pe_fld (pv 0) rfl) pa_nil))) pa_nil)))
    (pss_one (ps_ret (pe_callB (r := rAny K) (cr_any rfl) (by rfl) T.any (by decide +kernel) (pa_cons (pe_lc (own := [("lot", 3)]) (g := gName 3) rfl sc_Family_holds.nd (pi_tup (pe_fld (pv 0) rfl)) (blkOk_by (N := N_Family_holds) (sc := defScope s_Family_holds) (by decide +kernel)) (fun _ _ _ _ _ => pg_name (i := 3) sc_Family_holds.nd rfl (Or.inl rfl)) (fun _ _ _ _ _ => pts_nil) (fun _ _ _ _ _ => (pe_cmpR op_eq (pe_op op_and (pe_cl c_mask_of hr (by decide) (by rfl) (pa_cons (pv 3) pa_nil)) (pv 2)) (pe_cl c_mask_of hr (by decide) (by rfl) (pa_cons (pv 3) pa_nil)) (nomark _)))) pa_nil))))), ?_, ?_⟩
  · rintro ds d ⟨n, ls, l, sq, hi, hl, hs, rfl, rfl⟩ De o
    have sm : Sm (KM.sortN l) := ⟨fun x hx => by
      have := hl.lt x ((KM.sortN_perm l).mem_iff.mp hx)
      have := hi.n2
      omega, by rw [(KM.sortN_perm l).length_eq]; exact hl.len⟩
    refine sd_seq (sd_asg (d := iD (KM.maskOf (KM.sortN l))) (ep_call (ea_cons (ep_callS (ea_cons (ep_var rfl) (ea_cons (ep_fld (ep_var rfl) fc.ob.cl fc.nt rfl) ea_nil)) ⟨l, n, sq, hi.n1, hl, hs, rfl, rfl⟩) ea_nil) ⟨KM.sortN l, sm, rfl, rfl⟩) rfl (sd_go ?_))
    have hz := hi.len
    refine sd_ret (ep_cb (ea_cons (EF.p (ef_lcT1 (c := tD) (ts := ls) (fun lot => .bl (KM.maskOf lot &&& KM.maskOf (KM.sortN l) == KM.maskOf lot)) (ep_fld (ep_var rfl) fc.ob.cl fc.nl rfl) (fun _ _ => tD_im _) (by omega)
      (fun lot hlot => ep_op (ep_op (ep_call (ea_cons (ep_var rfl) ea_nil) ⟨lot, hi.lots.sm lot hlot, rfl, rfl⟩) (ep_var rfl) r2_and) (ep_call (ea_cons (ep_var rfl) ea_nil) ⟨lot, hi.lots.sm lot hlot, rfl, rfl⟩) r2_eqN) (fun _ _ => rfl))) ea_nil) rc_anyL) o.rt
  · rintro ds C' m ⟨n, ls, sq, hi, rfl, hq⟩ De o
    exact sd_seq (sd_asgR (er_call (era_cons (er_callS (ea_cons (ep_var rfl) (ea_cons (ep_fld (ep_var rfl) fc.ob.cl fc.nt rfl) ea_nil)) hq (wx_of o)))))
end
end Y
set_option Elab.async false
set_option linter.all false
set_option autoImplicit false
set_option maxRecDepth 100000
set_option maxHeartbeats 4000000
namespace Y
open PySem L2
section
variable {P : Program} {w : World} {K : PySem.W.Frag} {mg : Str → Option Value} {base : Heap}
/-! pick -/
abbrev s_law_pick : Stmt := topS 52
abbrev N_law_pick : List Str := ["_law_draws_here", "_law_bound"]
theorem sc_law_pick : FnScope N_law_pick ["_law_draws_here", "_law_bound"] (defScope s_law_pick) := ⟨rfl, rfl, rfl, by decide +kernel, rfl, by decide +kernel, by decide +kernel⟩
def ok_p (ds : List D) : Prop := ∃ b : Nat, 1 ≤ b ∧ ds = [iD b]
def p_pick (ds : List D) (d : D) : Prop := ∃ b x : Nat, x < b ∧ ds = [iD b] ∧ d = iD x
abbrev PickP (K : PySem.W.Frag) : Sp := DrawP K ok_p p_pick
theorem sd_pop {p : Addr} {ns : List Int} {H : Hp} {Z : Hp → Prop} {De : Ends} {b : Nat} {y : Int} {ms : List Int} (hb : 1 ≤ b) (hns : ns = ms ++ [y]) (o : ∀ v H' d ns', Drw H H' p → H' p = some (iv ns') → Is K (hid [p] H') v d → p_pick [iD b] d → De.rt v H') :
    SD K [p] H Z (tRet (tOp (rI (fun _ j => 0 < j) fun i j => .int (i % j)) (tCB (fun xs H Q => (∃ i, xs = [.int i] ∧ Q (.int i) H) ∨ ∃ k, xs = [.bl k] ∧ Q (.int (if k then 1 else 0)) H) (tCons (tBM0 K "list" rPop (tVar 0)) tNil)) (tVar 1))) De (entryD N_law_pick p [iD b] ns) := fun σ H1 e => by
  have hd := ds_entry N_law_pick p [iD b]
  obtain ⟨h1, h2⟩ := e.dat hd
  obtain ⟨v, h3, h4⟩ := e.val 1 (iD b) rfl
  cases h4
  obtain ⟨w1, _⟩ := env_drw hd e
  have hx : (ns.map V.int)[(ns.map V.int).length - 1]? = some (V.int y) := by rw [hns]; simp
  refine ⟨.ref p, h1, .inl ⟨rfl, _, SqL.of h2⟩, p, _, _, rfl, rfl, h2, hx, .inl ⟨y, rfl, _, h3, y, (b : Int), rfl, rfl, by omega, ?_⟩⟩
  refine o _ _ (iD (y % b).toNat) (ns.dropLast) (w1.trans fun a o' n q => by rw [upd_ne n]; exact q) (by rw [upd_same, List.dropLast_eq_take, List.dropLast_eq_take, iv, List.map_take, List.length_map]) ?_ ⟨b, _, ?_, rfl, rfl⟩
  · have h0 : 0 ≤ y % b := Int.emod_nonneg y (by omega)
    have : (((y % b).toNat : Nat) : Int) = y % b := by omega
    unfold iD
    rw [this]
    exact .int _
  · have h0 : 0 ≤ y % b := Int.emod_nonneg y (by omega)
    have h1 : y % b < b := Int.emod_lt_of_pos y (by omega)
    omega
theorem ok_law_pick {f : Addr} {fd : FuncData} (F : Fun K "_law_pick" "_law_pick" s_law_pick f fd) (T : Txt mg) : FnOk P w K mg base CX0 1 f fd ["_law_draws_here", "_law_bound"] (PickP K) := by
  refine draw_ok F sc_law_pick (fun ds h => by obtain ⟨_, _, rfl⟩ := h; rfl) (by decide) fun cdv A outer s H E hr => ?_
  refine ⟨_, (pss_cons (ps_if (pt_cmpR op_eq (pe_callB (r := rLen K) call_lenY (by rfl) T.len PySem.boot_len (pa_cons (pv 0) pa_nil)) pe_int (nomark _)) (pss_one (ps_ret pe_int)) pss_nil)
    (pss_one (ps_ret (pe_op op_mod (pe_callTy call_int1 (by rfl) T.int (by decide +kernel) (pa_cons (pe_bm0 PySem.F.plainAttrs_list PySem.F.slot_list_pop PySem.F.type_list_pop mt_pop (pv 0)) pa_nil)) (pv 1))))), ?_⟩
  rintro ds p ⟨b, hb, rfl⟩ De o _ ns
  have hd := ds_entry N_law_pick p [iD b]
  refine sd_seq (sd_if (et_test (ep_op (ep_cb (ea_cons (ep_own (l := ns.map D.int) rfl) ea_nil) rc_lenLn) ep_n0 r2_eqN)) (fun h => ?_) (fun h => sd_go ?_))
  · exact sd_retD (d := iD 0) hd ec_int o ⟨b, 0, hb, rfl, rfl⟩
  · rcases List.eq_nil_or_concat ns with rfl | ⟨ms, y, hy⟩
    · cases h
    · exact sd_pop hb (by simpa using hy) o
end
end Y
set_option Elab.async false
set_option linter.all false
set_option autoImplicit false
set_option maxRecDepth 100000
set_option maxHeartbeats 4000000
namespace Y
open PySem L2
section
variable {K : PySem.W.Frag} {B : List Addr} {H0 : Hp} {Z : Hp → Prop} {S : List Int → List Slot} {i : Nat} {p : Addr} {te : TE}
theorem en_pick {b : Nat} (hd : DS S i p) (h : ∀ ns, EC K B H0 Z te (S ns) (iD b)) (hb : 1 ≤ b) : EN K B H0 Z (tCall (PickP K) [] E0 (tCons (tVar i) (tCons te tNil))) S p (fun d => ∃ x, x < b ∧ d = iD x) :=
  en_draw hd (fun ns => eac_cons (h ns) eac_nil) ⟨b, hb, rfl⟩ (fun d hp => by
    obtain ⟨b', x, hx, e, rfl⟩ := hp
    have : b' = b := by
      have := List.cons.inj e
      have h2 : D.int (b : Int) = D.int (b' : Int) := this.1
      injection h2 with h2
      omega
    subst this
    exact ⟨x, hx, rfl⟩) (.inl fun d hp => by
    obtain ⟨_, x, _, _, rfl⟩ := hp
    rfl)
theorem dt_pick {b : Nat} {r : R2} {k : Int} (hb : 1 ≤ b) (hr : ∀ (x : Nat) H (Q : VK), (∀ c, Q (.bl c) H) → r (.int x) (.int k) H Q) : DT (tTest (tOp r (tCall (PickP K) [] E0 (tCons (tVar i) (tCons (tC (.int b)) tNil))) (tC (.int k)))) i p := fun σ H ns h1 h2 Q q => by
  refine ⟨.ref p, h1, ⟨p, [.int b], [iD b], ns, rfl, h2, .one (.int _), ⟨b, hb, rfl⟩, fun v H' d ns' w hp hv hpre => ?_⟩⟩
  obtain ⟨b', x, _, _, rfl⟩ := hpre
  cases hv
  exact hr x H' _ fun c => ⟨c, rfl, q c H' ns' w hp⟩
theorem req_any {x : Nat} {k : Int} {H : Hp} {Q : VK} (h : ∀ c, Q (.bl c) H) : rEq (.int x) (.int k) H Q := ⟨rfl, h _⟩
theorem rgt_any {x : Nat} {k : Int} {H : Hp} {Q : VK} (h : ∀ c, Q (.bl c) H) : (rI0 fun i j => .bl (decide (j < i))) (.int x) (.int k) H Q := ⟨_, _, rfl, rfl, h _⟩
end
section
variable {P : Program} {w : World} {K : PySem.W.Frag} {mg : Str → Option Value} {base : Heap}
/-! chosen -/
abbrev s_law_chosen : Stmt := topS 63
abbrev N_law_chosen : List Str := ["_law_draws_here", "_law_pool", "_law_least_here", "_law_found", "_law_at"]
theorem sc_law_chosen : FnScope N_law_chosen ["_law_draws_here", "_law_pool", "_law_least_here"] (defScope s_law_chosen) := ⟨rfl, rfl, rfl, by decide +kernel, rfl, by decide +kernel, by decide +kernel⟩
def ok_ch (ds : List D) : Prop := ∃ (ls : List (List Nat)) (k : Nat), ls.length < 1000 ∧ k ≤ ls.length ∧ ds = [lsD ls, iD k]
def p_chosen (ds : List D) (d : D) : Prop := ∀ (ls : List (List Nat)) (k : Nat), ds = [lsD ls, iD k] → ∃ ls' : List (List Nat), ls'.Sublist ls ∧ k ≤ ls'.length ∧ d = lsD ls'
theorem iD_inj {a b : Nat} (h : iD a = iD b) : a = b := by
  unfold iD at h
  injection h with h
  omega
theorem lsD_inj {a b : List (List Nat)} (h : lsD a = lsD b) : a = b := by
  unfold lsD at h
  injection h with h
  exact map_tD_inj.mp h
theorem ok_law_chosen {f : Addr} {fd : FuncData} (F : Fun K "_law_chosen" "_law_chosen" s_law_chosen f fd) (T : Txt mg) (c_law_pick : Cl P w K mg base 1 "_law_pick" (PickP K)) : FnOk P w K mg base CX0 2 f fd ["_law_draws_here", "_law_pool", "_law_least_here"] (DrawP K ok_ch p_chosen) := by
  refine draw_ok F sc_law_chosen (fun ds h => by obtain ⟨_, _, _, _, rfl⟩ := h; rfl) (by decide) fun cdv A outer s H E hr => ?_
  refine ⟨_, (pss_cons (ps_set (i := 3) sc_law_chosen.nd rfl (Or.inl rfl) (pe_lst pa_nil))
    (pss_cons (ps_for PassesOwn.never rfl (pi_range1 (by rfl) T.range (pa_cons (pe_callB (r := rLen K) call_lenY (by rfl) T.len PySem.boot_len (pa_cons (pv 1) pa_nil)) pa_nil)) (pg_name (i := 4) sc_law_chosen.nd rfl (Or.inl rfl))
    (pss_one (ps_if (pw_or (pt_cmpR op_eq (pe_cl c_law_pick hr (by decide) (by rfl) (pa_cons (pv 0) (pa_cons pe_int pa_nil))) pe_int (nomark _)) (pw_or1 (pt_cmpR op_le (pe_op op_sub (pe_op op_add (pe_callB (r := rLen K) call_lenY (by rfl) T.len PySem.boot_len (pa_cons (pv 3) pa_nil)) (pe_callB (r := rLen K) call_lenY (by rfl) T.len PySem.boot_len (pa_cons (pv 1) pa_nil))) (pv 4)) (pv 2) (nomark _)))).pt (pss_one (ps_expr (pe_bm PySem.F.plainAttrs_list PySem.F.slot_list_append PySem.F.type_list_append mt_append (pv 3) (pa_cons (pe_ix (r := rIxL K) ix_list (pv 1) (pv 4) (fun _ _ => rfl)) pa_nil)))) pss_nil)))
    (pss_one (ps_ret (pv 3))))), ?_⟩
  rintro ds p ⟨ls, k, hz, hk, rfl⟩ De o _ ns
  refine sd_seq (sd_asgO (ef_lst ea_nil) rfl fun q => sd_go ?_)
  refine sd_seq (sd_forRW (n := (ls.length : Int)) (fun j E => ∃ (ns : List Int) (fd : List (List Nat)), E = [dr p ns, .val (lsD ls), .val (iD k), .own q (fd.map tD), .no] ∧ fd.Sublist (ls.take j) ∧ k ≤ fd.length + (ls.length - j))
    (ea_cons (ep_cb (ea_cons (ep_var (d := .lst (ls.map tD)) rfl) ea_nil) rc_lenLn) ea_nil) (by omega) ⟨ns, [], rfl, by simp, by simpa using hk⟩ ?_ ?_)
  · rintro j E hj ⟨ns, fd, rfl, hs, hc⟩
    have hj' : j < ls.length := by omega
    have hd : DS (fun ns => [dr p ns, .val (lsD ls), .val (iD k), .own q (fd.map tD), .val (.int j)]) 0 p := ⟨fun _ => rfl, fun _ _ => rfl⟩
    have fl : fd.length ≤ j := by have := hs.length_le; simp at this; omega
    have hop := ent_or (K := K) (B := [p]) (H0 := H) (Z := fun _ => True) (S := fun ns => [dr p ns, .val (lsD ls), .val (iD k), .own q (fd.map tD), .val (.int j)]) (p := p) (P1 := fun _ => True) (P2 := fun b => b = decide (((fd.length : Int) + (ls.length : Int)) - (j : Int) ≤ (k : Int))) (P := fun b => b = false → k ≤ fd.length + (ls.length - (j + 1)))
      (ent_ev (P1 := fun d => ∃ b, d = .bl b) (en_op (P1 := fun d => ∃ x, x < 2 ∧ d = iD x) (P2 := fun _ d => d = iD 1) hd (en_pick (b := 2) hd (fun _ => ec_int) (by decide)) (fun _ _ => en_ec (d := iD 1) (fun _ => ec_int) hd rfl) (fun x y hx hy => by
        obtain ⟨a, _, rfl⟩ := hx
        subst hy
        exact ⟨_, r2_eqN, rfl, _, rfl⟩)) (fun d hd => by obtain ⟨b, rfl⟩ := hd; exact ⟨b, rfl, trivial⟩))
      (ent_et (fun ns => et_test (ep_op (ep_op (ep_op (ep_cb (ea_cons (ep_own (i := 3) (l := fd.map tD) rfl) ea_nil) rc_lenLn) (ep_cb (ea_cons (ep_var (i := 1) (d := .lst (ls.map tD)) rfl) ea_nil) rc_lenLn) r2_int) (ep_var (i := 4) rfl) r2_int) (ep_var (i := 2) (d := iD k) rfl) (r2_cmp (g := fun i j => decide (i ≤ j))))) rfl)
      (And.intro (fun _ h => Bool.noConfusion h) (fun b _ hb h => by
        subst hb
        have := of_decide_eq_false h
        omega))
    refine sd_ifN hop (fun _ ns => ?_) (fun hf ns => ?_) ns
    · refine sd_app (p := q) (i := 3) (l := fd.map tD) rfl (ep_op (ep_var (d := .lst (ls.map tD)) rfl) (ep_var rfl) (r2_ixL (d := tD ls[j]) ?_)) (tD_im _) (by rw [List.length_map]; omega) ?_
      · unfold atI ixN
        rw [List.length_map, if_pos (by omega), if_pos (by omega)]
        simp [hj']
      · refine sd_lw (E' := [dr p ns, .val (lsD ls), .val (iD k), .own q ((fd ++ [ls[j]]).map tD), .no]) ⟨ns, fd ++ [ls[j]], rfl, ?_, by rw [List.length_append]; simp; omega⟩ ?_
        · rw [List.take_add_one, List.getElem?_eq_getElem hj']
          exact hs.append (List.Sublist.refl _)
        · rw [List.map_append]
          exact .eq (.eq (.eq (.eq (.no .nil))))
    · exact sd_lw (E' := [dr p ns, .val (lsD ls), .val (iD k), .own q (fd.map tD), .no]) ⟨ns, fd, rfl, hs.trans (List.take_sublist_take_left (by omega)), hf rfl⟩ (.eq (.eq (.eq (.eq (.no .nil)))))
  · rintro E ⟨ns, fd, rfl, hs, hc⟩
    have e2 : ((ls.length : Int)).toNat = ls.length := by omega
    rw [e2] at hs hc
    rw [List.take_length] at hs
    have hd : DS (fun ns => [dr p ns, .val (lsD ls), .val (iD k), .own q (fd.map tD), .no]) 0 p := ⟨fun _ => rfl, fun _ _ => rfl⟩
    refine sd_go (sd_retDO (S := fun ns => [dr p ns, .val (lsD ls), .val (iD k), .own q (fd.map tD), .no]) (i := 0) (j := 3) hd rfl (by decide) o ?_)
    intro ls' k' e
    have h1 := List.cons.inj e
    have h2 := lsD_inj h1.1
    have h3 := iD_inj (List.cons.inj h1.2).1
    subst h2 h3
    exact ⟨fd, hs, by omega, rfl⟩
end
end Y
set_option Elab.async false
set_option linter.all false
set_option autoImplicit false
set_option maxRecDepth 100000
set_option maxHeartbeats 4000000
namespace Y
open PySem L2
section
variable {P : Program} {w : World} {K : PySem.W.Frag} {mg : Str → Option Value} {base : Heap}
/-! mixed_lots -/
abbrev s_law_mixed_lots : Stmt := topS 64
abbrev N_law_mixed_lots : List Str := ["_law_draws_here", "_law_size", "_law_found", "_law_turn", "_law_lot", "_law_thing"]
theorem sc_law_mixed_lots : FnScope N_law_mixed_lots ["_law_draws_here", "_law_size"] (defScope s_law_mixed_lots) := ⟨rfl, rfl, rfl, by decide +kernel, rfl, by decide +kernel, by decide +kernel⟩
/-- a lot over n things -/
structure Lot1 (n : Nat) (l : List Nat) : Prop where
  asc : KM.Asc l
  ne : l ≠ []
  lt : ∀ x ∈ l, x < n
def ok_mix (ds : List D) : Prop := ∃ n : Nat, 1 ≤ n ∧ n ≤ 12 ∧ ds = [iD n]
def p_mixed (ds : List D) (d : D) : Prop := ∀ n : Nat, ds = [iD n] → ∃ fs : List (List Nat), fs ≠ [] ∧ (∀ l ∈ fs, Lot1 n l) ∧ d = lsD (KM.leastL fs)
/-- a lot as it is drawn -/
structure Lot0 (n : Nat) (l : List Nat) : Prop where
  ne : l ≠ []
  lt : ∀ x ∈ l, x < n
  len : l.length ≤ 100
  nd : l.head? ≠ l.getLast? → l.Nodup
theorem Lot1.sm {n : Nat} {l : List Nat} (h : Lot1 n l) (hn : n ≤ 60) : Sm l := ⟨fun x hx => by have := h.lt x hx; omega, by have := asc_len h.asc h.lt; omega⟩
theorem nd_at {n : Nat} {l : List Nat} (h : Lot0 n l) (e : l.head? ≠ l.getLast?) : Lot1 n (KM.sortN l) := ⟨KM.sortN_nd (h.nd e), fun z => h.ne (by
  have := (KM.sortN_perm l).length_eq
  rw [z] at this
  exact List.length_eq_zero_iff.mp this.symm), fun x hx => h.lt x (KM.sortN_mem.mp hx)⟩
theorem ix_head {l : List Nat} (h : l ≠ []) : ∃ a, l.head? = some a ∧ atI (l.map iD) 0 = some (iD a) := by
  cases l with
  | nil => exact absurd rfl h
  | cons a l => exact ⟨a, rfl, by simp [atI, ixN]⟩
theorem ix_last {l : List Nat} (h : l ≠ []) : ∃ a, l.getLast? = some a ∧ atI (l.map iD) (-1) = some (iD a) := by
  refine ⟨l.getLast h, List.getLast?_eq_some_getLast h, ?_⟩
  have hl : 0 < l.length := List.length_pos_iff.mpr h
  unfold atI ixN
  rw [List.length_map, if_neg (by omega), if_pos (by omega)]
  have : ((-1 : Int) + (l.length : Int)).toNat = l.length - 1 := by omega
  rw [this]
  simp only [Option.bind_some, List.getElem?_map]
  rw [← List.getLast?_eq_getElem?, List.getLast?_eq_some_getLast h]
  rfl
theorem ok_law_mixed {f : Addr} {fd : FuncData} (F : Fun K "_law_mixed_lots" "_law_mixed_lots" s_law_mixed_lots f fd) (T : Txt mg) (c_law_pick : Cl P w K mg base 1 "_law_pick" (PickP K)) (c_law_least : Cl P w K mg base 2 "_law_least" (Fresh K p_law_least)) :
    FnOk P w K mg base CX0 3 f fd ["_law_draws_here", "_law_size"] (DrawP K ok_mix p_mixed) := by
  refine draw_ok F sc_law_mixed_lots (fun ds h => by obtain ⟨_, _, _, rfl⟩ := h; rfl) (by decide) fun cdv A outer s H E hr => ?_
  refine ⟨_, (pss_cons (ps_set (i := 2) sc_law_mixed_lots.nd rfl (Or.inl rfl) (pe_lst pa_nil))
    (pss_cons (ps_for PassesOwn.never rfl (pi_range1 (by rfl) T.range (pa_cons (pe_op op_add pe_int (pe_cl c_law_pick hr (by decide) (by rfl) (pa_cons (pv 0) (pa_cons pe_int pa_nil)))) pa_nil)) (pg_name (i := 3) sc_law_mixed_lots.nd rfl (Or.inl rfl))
    (pss_cons (ps_setLc (i := 4) (own := [("_law_thing", 5)]) (g := gName 5) rfl sc_law_mixed_lots.nd rfl rfl (sw_true rfl rfl rfl (by decide +kernel)) (pi_range1 (by rfl) T.range (pa_cons (pv 1) pa_nil)) (blkOk_by (N := N_law_mixed_lots) (sc := defScope s_law_mixed_lots) (by decide +kernel)) (fun _ _ _ _ _ => pg_name (i := 5) sc_law_mixed_lots.nd rfl (Or.inl rfl)) (fun _ _ _ _ _ => (pts_one (pt_cmpR op_eq (pe_cl c_law_pick hr (by decide) (by rfl) (pa_cons (pv 0) (pa_cons pe_int pa_nil))) pe_int (nomark _)))) (fun _ _ _ _ _ => (pv 5)))
    (pss_cons (ps_if (pt_cmpR op_eq (pe_callB (r := rLen K) call_lenY (by rfl) T.len PySem.boot_len (pa_cons (pv 4) pa_nil)) pe_int (nomark _)) (pss_one (ps_set (i := 4) sc_law_mixed_lots.nd rfl (Or.inl rfl) (pe_lst (pa_cons (pe_cl c_law_pick hr (by decide) (by rfl) (pa_cons (pv 0) (pa_cons (pv 1) pa_nil))) (pa_cons (pe_op op_sub (pv 1) pe_int) pa_nil))))) pss_nil)
    (pss_cons (ps_if (pt_cmpR op_eq (pe_ix (r := rIxL K) ix_list (pv 4) pe_int (fun _ _ => rfl)) (pe_ix (r := rIxL K) ix_list (pv 4) (pe_un un_neg pe_int) (fun _ _ => rfl)) (nomark _)) (pss_one (ps_set (i := 4) sc_law_mixed_lots.nd rfl (Or.inl rfl) (pe_lst (pa_cons (pe_ix (r := rIxL K) ix_list (pv 4) pe_int (fun _ _ => rfl)) pa_nil)))) pss_nil)
    (pss_one (ps_expr (pe_bm PySem.F.plainAttrs_list PySem.F.slot_list_append PySem.F.type_list_append mt_append (pv 2) (pa_cons (pe_callTy (r := rTupOf K) call_tupY (by rfl) T.tuple (by decide +kernel) (pa_cons (pe_callB (r := rSortedI K) cr_sortedI (by rfl) T.sorted (by decide +kernel) (pa_cons (pv 4) pa_nil)) pa_nil)) pa_nil))))))))
    (pss_one (ps_ret (pe_cl c_law_least hr (by decide) (by rfl) (pa_cons (pv 2) pa_nil)))))), ?_⟩
  rintro ds p ⟨n, hn, hn2, rfl⟩ De o _ ns
  refine sd_seq (sd_asgO (ef_lst ea_nil) rfl fun q => sd_go ?_)
  have hd : DS (fun ns => [dr p ns, .val (iD n), .own q [], .no, .no, .no]) 0 p := ⟨fun _ => rfl, fun _ _ => rfl⟩
  refine sd_seq (sd_forN (S := fun ns => [dr p ns, .val (iD n), .own q [], .no, .no, .no]) (P := fun z => 3 ≤ z ∧ z ≤ 5) hd
    (en_op (P1 := fun d => d = iD 3) (P2 := fun _ d => ∃ x, x < 3 ∧ d = iD x) hd (en_ec (d := iD 3) (fun _ => ec_int) hd rfl) (fun _ _ => en_pick (b := 3) hd (fun _ => ec_int) (by decide)) (fun x y hx hy => by
      obtain ⟨a, ha, rfl⟩ := hy
      subst hx
      exact ⟨_, r2_int (g := fun i j => i + j), rfl, _, rfl, ⟨by omega, by omega⟩, by omega, by omega⟩))
    (fun j E => ∃ (ns : List Int) (fs : List (List Nat)), E = [dr p ns, .val (iD n), .own q (fs.map tD), .no, .no, .no] ∧ fs.length = j ∧ ∀ l ∈ fs, Lot1 n l) (fun ns => ⟨ns, [], rfl, rfl, by simp⟩) ?_ ?_ ns)
  · rintro z j E hz hj ⟨ns, fs, rfl, hfl, hfs⟩
    have hd1 : DS (fun ns => [dr p ns, .val (iD n), .own q (fs.map tD), .val (.int j), .no, .no]) 0 p := ⟨fun _ => rfl, fun _ _ => rfl⟩
    refine sd_seq (sd_asgN hd1 (en_lcD (i := 0) (n := (n : Int)) hd1 (by decide) (fun _ => by show 5 < 6; decide) (fun _ => ea_cons (ep_var (d := iD n) rfl) ea_nil) (by omega) (dt_pick (b := 2) (by decide) fun x H Q h => req_any h)) (fun d ns hdp => sd_go ?_) ns)
    obtain ⟨xs, hxs, hxl, rfl⟩ := hdp
    have hxa : KM.Asc xs := hxs
    have hxl' : ∀ x ∈ xs, x < n := fun x hx => by have := hxl x hx; omega
    -- what follows, from a lot as drawn
    have fin : ∀ (ns : List Int) (l : List Nat), Lot0 n l → SD K [p] H (fun _ => True) (tSeq
        (tIfS (tTest (tOp rEq (tOp (rIxL K) (tVar 4) (tC (.int 0))) (tOp (rIxL K) (tVar 4) (tUn (rU fun i => .int (-i)) (tC (.int 1)))))) (tAsg (tLst (tCons (tOp (rIxL K) (tVar 4) (tC (.int 0))) tNil)) (gName 4)) tNext)
        (tDrop (tBM K "list" rAppend (tVar 2) (tCons (tCB (rTupOf K) (tCons (tCB (rSortedI K) (tCons (tVar 4) tNil)) tNil)) tNil))))
        (LW K [p] H (fun _ => True) { nx := fun σ H => (tRet (tCall (Fresh K p_law_least) [] E0 (tCons (tVar 2) tNil))) De σ H, rt := De.rt, bk := De.bk, ct := De.ct } (fun E => ∃ (ns : List Int) (fs : List (List Nat)), E = [dr p ns, .val (iD n), .own q (fs.map tD), .no, .no, .no] ∧ fs.length = j + 1 ∧ ∀ l ∈ fs, Lot1 n l))
        [dr p ns, .val (iD n), .own q (fs.map tD), .val (.int j), .val (.lst (l.map iD)), .no] := fun ns l hl => by
      obtain ⟨a, ha1, ha2⟩ := ix_head hl.ne
      obtain ⟨b, hb1, hb2⟩ := ix_last hl.ne
      have app : ∀ (m : List Nat), Lot1 n (KM.sortN m) → SD K [p] H (fun _ => True) (tDrop (tBM K "list" rAppend (tVar 2) (tCons (tCB (rTupOf K) (tCons (tCB (rSortedI K) (tCons (tVar 4) tNil)) tNil)) tNil)))
          (LW K [p] H (fun _ => True) { nx := fun σ H => (tRet (tCall (Fresh K p_law_least) [] E0 (tCons (tVar 2) tNil))) De σ H, rt := De.rt, bk := De.bk, ct := De.ct } (fun E => ∃ (ns : List Int) (fs : List (List Nat)), E = [dr p ns, .val (iD n), .own q (fs.map tD), .no, .no, .no] ∧ fs.length = j + 1 ∧ ∀ l ∈ fs, Lot1 n l))
          [dr p ns, .val (iD n), .own q (fs.map tD), .val (.int j), .val (.lst (m.map iD)), .no] := fun m hm => by
        refine sd_app (p := q) (i := 2) (l := fs.map tD) (d := tD (KM.sortN m)) rfl (ep_is (ep_cb (ea_cons (EF.p (ef_cb (ea_cons (ep_var (i := 4) (d := .lst (m.map iD)) rfl) ea_nil) rf_sortedN)) ea_nil) rc_tupleL) (by rw [tD_eq])) (tD_im _) (by rw [List.length_map]; omega) ?_
        refine sd_lw (E' := [dr p ns, .val (iD n), .own q ((fs ++ [KM.sortN m]).map tD), .no, .no, .no]) ⟨ns, fs ++ [KM.sortN m], rfl, by simp [hfl], fun l hl => ?_⟩ ?_
        · rcases List.mem_append.mp hl with hl | hl
          · exact hfs l hl
          · have : l = KM.sortN m := by simpa using hl
            rw [this]; exact hm
        · rw [List.map_append]
          exact .eq (.eq (.eq (.no (.no (.eq .nil)))))
      refine sd_seq (sd_if (et_test (ep_op (ep_op (ep_var (d := .lst (l.map iD)) rfl) ep_int (r2_ixL ha2)) (ep_op (ep_var (d := .lst (l.map iD)) rfl) (ep_un (x := .int 1) ep_int r1_neg) (r2_ixL hb2)) r2_eqN)) (fun h => ?_) (fun h => ?_))
      · refine sd_asgL (ef_lst (ea_cons (ep_op (ep_var (d := .lst (l.map iD)) rfl) ep_int (r2_ixL ha2)) ea_nil)) rfl (sd_go (app [a] ?_))
        have ham : a ∈ l := List.mem_of_mem_head? ha1
        have e1 : KM.sortN [a] = [a] := sortN_asc (List.pairwise_singleton _ _)
        rw [e1]
        exact ⟨List.pairwise_singleton _ _, by simp, fun x hx => by simp at hx; rw [hx]; exact hl.lt a ham⟩
      · refine sd_go (app l (nd_at hl ?_))
        rw [ha1, hb1]
        intro z
        have : a = b := Option.some.inj z
        rw [this] at h
        simp at h
    refine sd_seq (sd_if (et_test (ep_op (ep_cb (ea_cons (ep_var (i := 4) (d := .lst (xs.map iD)) rfl) ea_nil) rc_lenLn) ep_n0 r2_eqN)) (fun h => ?_) (fun h => ?_))
    · have hd2 : DS (fun ns => [dr p ns, .val (iD n), .own q (fs.map tD), .val (.int j), .val (.lst (xs.map iD)), .no]) 0 p := ⟨fun _ => rfl, fun _ _ => rfl⟩
      refine sd_asgN hd2 (en_lst (PA := fun l => ∃ x, x < n ∧ l = [iD x, iD (n - 1)]) (P := fun d => ∃ x, x < n ∧ d = .lst ([x, n - 1].map iD)) hd2 (ena_cons (P1 := fun d => ∃ x, x < n ∧ d = iD x) (P2 := fun _ l => l = [iD (n - 1)]) hd2 (en_pick (b := n) hd2 (fun _ => ec_var (d := iD n) rfl) hn)
        (fun _ _ => ena_cons (P1 := fun d => d = iD (n - 1)) (P2 := fun _ l => l = []) hd2 (en_ec (d := iD (n - 1)) (fun _ => ec_im (ep_is (ep_op (ep_var (d := iD n) rfl) ep_n1 r2_int) (by show D.int ((n : Int) - 1) = D.int ((n - 1 : Nat) : Int); congr 1; omega)) rfl) hd2 rfl) (fun _ _ => ena_nil hd2 rfl) (fun d l h1 h2 => by rw [h1, h2]))
        (fun d l h1 h2 => by obtain ⟨x, hx, rfl⟩ := h1; exact ⟨x, hx, by rw [h2]⟩)) (fun l hl => by obtain ⟨x, _, rfl⟩ := hl; simp) (fun l hl => by obtain ⟨x, hx, rfl⟩ := hl; exact ⟨x, hx, rfl⟩)) (fun d ns hdp => sd_go ?_) ns
      obtain ⟨x, hx, rfl⟩ := hdp
      refine fin ns [x, n - 1] ⟨by simp, fun y hy => ?_, by simp, fun hne => ?_⟩
      · simp at hy
        omega
      · simp at hne ⊢
        omega
    · have hne : xs ≠ [] := fun z => by rw [z] at h; cases h
      refine sd_go (fin ns xs ⟨hne, hxl', by have := asc_len hxa hxl'; omega, fun _ => hxa.imp fun h => Nat.ne_of_lt h⟩)
  · rintro z E hz h0 ⟨ns, fs, rfl, hfl, hfs⟩
    have hd1 : DS (fun ns => [dr p ns, .val (iD n), .own q (fs.map tD), .no, .no, .no]) 0 p := ⟨fun _ => rfl, fun _ _ => rfl⟩
    have hl5 : fs.length ≤ 5 := by omega
    refine sd_go (sd_retD (S := fun ns => [dr p ns, .val (iD n), .own q (fs.map tD), .no, .no, .no]) hd1 (ec_new (ef_call (ea_cons (ep_own (i := 2) (l := fs.map tD) rfl) ea_nil) ⟨fs, ⟨by omega, fun l hl => (hfs l hl).sm (by omega)⟩, fun l hl => (hfs l hl).ne, rfl, rfl⟩) (imAll_tD _)) o ?_)
    intro n' e
    have := iD_inj (List.cons.inj e).1
    subst this
    exact ⟨fs, fun z => by rw [z] at hfl; simp at hfl; omega, hfs, rfl⟩
end
end Y
set_option Elab.async false
set_option linter.all false
set_option autoImplicit false
set_option maxRecDepth 100000
set_option maxHeartbeats 4000000
namespace Y
open PySem L2
section
variable {P : Program} {w : World} {K : PySem.W.Frag} {mg : Str → Option Value} {base : Heap}
/-! moved -/
abbrev s_law_moved : Stmt := topS 65
abbrev N_law_moved : List Str := ["_law_draws_here", "_law_size", "_law_lots", "_law_left", "_law_names", "_law_turn", "_law_found", "_law_lot", "_law_thing"]
theorem sc_law_moved : FnScope N_law_moved ["_law_draws_here", "_law_size", "_law_lots"] (defScope s_law_moved) := ⟨rfl, rfl, rfl, by decide +kernel, rfl, by decide +kernel, by decide +kernel⟩
def ok_mov (ds : List D) : Prop := ∃ (n : Nat) (ls : List (List Nat)), n ≤ 12 ∧ ls.length < 1000 ∧ (∀ l ∈ ls, Lot1 n l) ∧ ds = [iD n, lsD ls]
def mv (names : List Nat) (l : List Nat) : List Nat := KM.sortN (l.map fun t => names.getD t 0)
def p_moved (ds : List D) (d : D) : Prop := ∀ (n : Nat) (ls : List (List Nat)), ds = [iD n, lsD ls] → ∃ names : List Nat, names.Perm (List.range n) ∧ d = lsD (KM.srt (ls.map (mv names)))
theorem ers_perm : ∀ (l : List Nat) (x : Nat) (h : x < l.length), (l[x] :: l.eraseIdx x).Perm l
  | a :: l, 0, _ => List.Perm.refl _
  | a :: l, x + 1, h => (List.Perm.swap a _ _).trans ((ers_perm l x (by simpa using h)).cons a)
theorem perm_pick {names left : List Nat} {n x : Nat} (h : (names ++ left).Perm (List.range n)) (hx : x < left.length) : ((names ++ [left[x]]) ++ left.eraseIdx x).Perm (List.range n) := by
  have h1 : (left[x] :: left.eraseIdx x).Perm left := ers_perm left x hx
  rw [List.append_assoc]
  exact ((List.Perm.refl names).append h1).trans h
theorem ok_law_moved {f : Addr} {fd : FuncData} (F : Fun K "_law_moved" "_law_moved" s_law_moved f fd) (T : Txt mg) (c_law_pick : Cl P w K mg base 1 "_law_pick" (PickP K)) : FnOk P w K mg base CX0 2 f fd ["_law_draws_here", "_law_size", "_law_lots"] (DrawP K ok_mov p_moved) := by
  refine draw_ok F sc_law_moved (fun ds h => by obtain ⟨_, _, _, _, _, rfl⟩ := h; rfl) (by decide) fun cdv A outer s H E hr => ?_
  have hu := hr.units
  refine ⟨_, (pss_cons (ps_set (i := 3) sc_law_moved.nd rfl (Or.inl rfl) (pe_listRg rfl (by rfl) T.list (prg_1 (by rfl) T.range (pv 1))))
    (pss_cons (ps_set (i := 4) sc_law_moved.nd rfl (Or.inr rfl) (pe_lst pa_nil))
    (pss_cons (ps_for PassesOwn.never rfl (pi_range1 (by rfl) T.range (pa_cons (pv 1) pa_nil)) (pg_name (i := 5) sc_law_moved.nd rfl (Or.inl rfl))
    (pss_one (ps_expr (pe_bm PySem.F.plainAttrs_list PySem.F.slot_list_append PySem.F.type_list_append mt_append (pv 4) (pa_cons (pe_bm PySem.F.plainAttrs_list PySem.F.slot_list_pop PySem.F.type_list_pop mt_popAt (pv 3) (pa_cons (pe_cl c_law_pick hr (by decide) (by rfl) (pa_cons (pv 0) (pa_cons (pe_callB (r := rLen K) call_lenY (by rfl) T.len PySem.boot_len (pa_cons (pv 3) pa_nil)) pa_nil))) pa_nil)) pa_nil)))))
    (pss_cons (ps_set (i := 6) sc_law_moved.nd rfl (Or.inl rfl) (pe_lst pa_nil))
    (pss_cons (ps_for PassesOwn.never rfl (pi_list (pv 2)) (pg_name (i := 7) sc_law_moved.nd rfl (Or.inl rfl))
    (pss_one (ps_expr (pe_bm PySem.F.plainAttrs_list PySem.F.slot_list_append PySem.F.type_list_append mt_append (pv 6) (pa_cons (pe_callTy (r := rTupOf K) call_tupY (by rfl) T.tuple (by decide +kernel) (pa_cons (pe_callB (r := rSortedI K) cr_sortedI (by rfl) T.sorted (by decide +kernel) (pa_cons (pe_lc (own := [("_law_thing", 8)]) (g := gName 8) rfl sc_law_moved.nd (pi_tup (pv 7)) (blkOk_by (N := N_law_moved) (sc := defScope s_law_moved) (by decide +kernel)) (fun _ _ _ _ _ => pg_name (i := 8) sc_law_moved.nd rfl (Or.inl rfl)) (fun _ _ _ _ _ => pts_nil) (fun _ _ _ _ _ => (pe_ix (r := rIxL K) ix_list (pv 4) (pv 8) (fun _ _ => rfl)))) pa_nil)) pa_nil)) pa_nil)))))
    (pss_one (ps_ret (pe_callB (r := rSortY K) (cr_sortY hu) (by rfl) T.sorted (by decide +kernel) (pa_cons (pv 6) pa_nil))))))))), ?_⟩
  rintro ds p ⟨n, ls, hn, hz, hls, rfl⟩ De o _ ns
  refine sd_seq (sd_asgO (l := (List.range n).map iD) (ef_is (ef_lstRg1 (ep_var (d := iD n) rfl) (by omega)) (by rw [show ((n : Int)).toNat = n by omega])) (imAll_nD _) fun q1 => sd_go ?_)
  refine sd_seq (sd_asgO (ef_lst ea_nil) rfl fun q2 => sd_go ?_)
  refine sd_seq (sd_forRW (n := (n : Int)) (fun j E => ∃ (ns : List Int) (left names : List Nat), E = [dr p ns, .val (iD n), .val (lsD ls), .own q1 (left.map iD), .own q2 (names.map iD), .no, .no, .no, .no] ∧ names.length = j ∧ (names ++ left).Perm (List.range n))
    (ea_cons (ep_var (d := iD n) rfl) ea_nil) (by omega) ⟨ns, List.range n, [], rfl, rfl, by simp⟩ ?_ ?_)
  · rintro j E hj ⟨ns, left, names, rfl, hnl, hp⟩
    have hlen : left.length = n - j := by
      have := hp.length_eq
      rw [List.length_append, List.length_range] at this
      omega
    have hd : DS (fun ns => [dr p ns, .val (iD n), .val (lsD ls), .own q1 (left.map iD), .own q2 (names.map iD), .val (.int j), .no, .no, .no]) 0 p := ⟨fun _ => rfl, fun _ _ => rfl⟩
    refine sd_appPop (S := fun ns => [dr p ns, .val (iD n), .val (lsD ls), .own q1 (left.map iD), .own q2 (names.map iD), .val (.int j), .no, .no, .no]) (jl := 3) (jn := 4) hd (fun _ => rfl) (fun _ => rfl) (by decide)
      (en_pick (b := left.length) hd (fun _ => ec_im (ep_cb (ea_cons (ep_own (i := 3) (l := left.map iD) rfl) ea_nil) rc_lenLn) rfl) (by omega)) ⟨by omega, by omega⟩ (fun ns x hx => ?_) ns
    refine sd_lw (E' := [dr p ns, .val (iD n), .val (lsD ls), .own q1 ((left.eraseIdx x).map iD), .own q2 ((names ++ [left[x]]).map iD), .no, .no, .no, .no]) ⟨ns, _, _, rfl, by simp [hnl], perm_pick hp hx⟩ ?_
    exact .eq (.eq (.eq (.eq (.eq (.no (.eq (.eq (.eq .nil))))))))
  · rintro E ⟨ns, left, names, rfl, hnl, hp⟩
    have hnl' : names.length = n := by omega
    have hleft : left = [] := by
      have := hp.length_eq
      rw [List.length_append, List.length_range] at this
      exact List.length_eq_zero_iff.mp (by omega)
    have hpn : names.Perm (List.range n) := by
      rw [hleft, List.append_nil] at hp
      exact hp
    refine sd_go (sd_seq (sd_asgO (ef_lst ea_nil) rfl fun q3 => sd_go ?_))
    refine sd_seq (sd_forLP (c := tD) (ts := ls) (fun _ => True) (ec_var rfl) (fun i => [dr p ns, .val (iD n), .val (lsD ls), .own q1 (left.map iD), .own q2 (names.map iD), .no, .own q3 (((ls.take i).map (mv names)).map tD), .no, .no]) rfl trivial (fun Z' i l hl _ => ?_) (fun _ => sd_go ?_))
    · have hlm : l ∈ ls := List.mem_of_getElem? hl
      have hl1 := hls l hlm
      have hi : i < ls.length := (List.getElem?_eq_some_iff.mp hl).1
      have hc : EF K [p] H Z' (tLc (iTup K (tVar 7)) (gName 8) tYes (tOp (rIxL K) (tVar 4) (tVar 8)) [8]) [dr p ns, .val (iD n), .val (lsD ls), .own q1 (left.map iD), .own q2 (names.map iD), .no, .own q3 (((ls.take i).map (mv names)).map tD), .val (tD l), .no] ((l.map fun t => names.getD t 0).map iD) := by
        have e9 : ((l.map fun t => names.getD t 0).map iD) = l.map fun t => iD (names.getD t 0) := by rw [List.map_map]; rfl
        rw [e9]
        refine ef_lcT1 (E := [dr p ns, .val (iD n), .val (lsD ls), .own q1 (left.map iD), .own q2 (names.map iD), .no, .own q3 (((ls.take i).map (mv names)).map tD), .val (tD l), .no]) (j := 8) (c := iD) (ts := l) (fun t => iD (names.getD t 0)) (ep_is (ep_var (i := 7) (d := tD l) rfl) (tD_eq l)) (fun _ _ => rfl) (by have := (hl1.sm (by omega)).len; omega) (fun t ht => ep_op (ep_own (i := 4) (l := names.map iD) rfl) (ep_var (i := 8) (d := iD t) rfl) (r2_ixL ?_)) (fun _ _ => rfl)
        have htl : t < names.length := by rw [hnl']; exact hl1.lt t ht
        unfold atI ixN
        rw [List.length_map, if_pos (by omega), if_pos (by omega)]
        simp [htl, List.getD]
      refine sd_app (p := q3) (i := 6) (l := ((ls.take i).map (mv names)).map tD) (d := tD (mv names l)) rfl (ep_is (ep_cb (ea_cons (EF.p (ef_cb (ea_cons (EF.p hc) ea_nil) rf_sortedN)) ea_nil) rc_tupleL) (by rw [tD_eq]; rfl)) (tD_im _) (by rw [List.length_map, List.length_map, List.length_take]; omega) (sd_lp trivial ?_)
      rw [take_step hl, List.map_append, List.map_append]
      exact .eq (.eq (.eq (.eq (.eq (.eq (.eq (.no (.eq .nil))))))))
    · rw [List.take_length]
      have hd : DS (fun ns => [dr p ns, .val (iD n), .val (lsD ls), .own q1 (left.map iD), .own q2 (names.map iD), .no, .own q3 ((ls.map (mv names)).map tD), .no, .no]) 0 p := ⟨fun _ => rfl, fun _ _ => rfl⟩
      refine sd_retD (S := fun ns => [dr p ns, .val (iD n), .val (lsD ls), .own q1 (left.map iD), .own q2 (names.map iD), .no, .own q3 ((ls.map (mv names)).map tD), .no, .no]) hd (ec_new (ef_cb (ea_cons (ep_own (i := 6) (l := (ls.map (mv names)).map tD) rfl) ea_nil) (rf_sortY (ts := ls.map (mv names)) (.inr fun t ht => ?_))) (imAll_tD _)) o ?_
      · obtain ⟨l, hl, rfl⟩ := List.mem_map.mp ht
        intro z
        have := (KM.sortN_perm (l.map fun t => names.getD t 0)).length_eq
        have z' : KM.sortN (l.map fun t => names.getD t 0) = [] := z
        rw [z', List.length_map] at this
        exact (hls l hl).ne (List.length_eq_zero_iff.mp this.symm)
      · intro n' ls' e
        have h1 := iD_inj (List.cons.inj e).1
        have h2 := lsD_inj (List.cons.inj (List.cons.inj e).2).1
        subst h1 h2
        exact ⟨names, hpn, rfl⟩
end
end Y
set_option Elab.async false
set_option linter.all false
set_option autoImplicit false
set_option maxRecDepth 100000
set_option maxHeartbeats 4000000
namespace Y
open PySem L2
section
variable {K : PySem.W.Frag} {B : List Addr} {H0 : Hp} {Z : Hp → Prop} {E : List Slot} {S : List Int → List Slot} {i : Nat} {p : Addr} {te : TE}
/-- [n, lots] -/
def famL (n : Nat) (ls : List (List Nat)) : D := .lst [iD n, lsD ls]
def Fam (d : D) : Prop := ∃ (n : Nat) (ls : List (List Nat)), KM.GF n ls ∧ n ≤ 6 ∧ d = famL n ls
theorem gf_lot1 {n : Nat} {ls : List (List Nat)} (g : KM.GF n ls) : ∀ l ∈ ls, Lot1 n l := fun l hl => ⟨g.g.asc l hl, g.lne l hl, g.lt l hl⟩
theorem gf_small {n : Nat} {ls : List (List Nat)} (g : KM.GF n ls) (hn : n ≤ 7) : ls.length ≤ 128 := Nat.le_trans (KM.gf_len g) (by
  calc 2 ^ n ≤ 2 ^ 7 := Nat.pow_le_pow_right (by decide) hn
    _ = 128 := by decide)
theorem gf_LL {n : Nat} {ls : List (List Nat)} (g : KM.GF n ls) (hn : n ≤ 7) : LL ls := ⟨by have := gf_small g hn; omega, fun l hl => (gf_lot1 g l hl).sm (by omega)⟩
theorem et_eqN {a : Nat} {b : Int} {k : Nat} {j : Nat} (h : E[j]? = some (.val (iD a))) (e : b = (k : Int)) : ET K B H0 Z (tTest (tOp rEq (tVar j) (tC (.int b)))) E (a == k) := by
  subst e
  exact et_test (ep_op (ep_var h) (ep_int (i := (k : Int))) r2_eqN)
theorem et_in2 {a k1 k2 : Nat} {b1 b2 : Int} {j : Nat} (h : E[j]? = some (.val (iD a))) (e1 : b1 = (k1 : Int)) (e2 : b2 = (k2 : Int)) : ET K B H0 Z (tTest (tOp (rIn K false) (tVar j) (tTup (tCons (tC (.int b1)) (tCons (tC (.int b2)) tNil))))) E (decide ((a : Int) ∈ [b1, b2])) :=
  et_test (ep_op (ep_var h) (ep_tup (ea_cons ep_int (ea_cons ep_int ea_nil))) (r2_inI (i := (a : Int)) (ns := [b1, b2]) (.inl rfl)))
/-- [n, lots] of a number and a new list of lots -/
theorem ec_fam {ta tb : TE} {n : Nat} {ls : List (List Nat)} (ha : EC K B H0 Z ta E (iD n)) (hb : EC K B H0 Z tb E (lsD ls)) : EC K B H0 Z (tLst (tCons ta (tCons tb tNil))) E (famL n ls) := ec_lst (eac_cons ha (eac_cons hb eac_nil))
theorem en_fam {ta tb : TE} {PA : D → Prop} {PB : D → D → Prop} {P : D → Prop} (hd : DS S i p) (ha : EN K B H0 Z ta S p PA) (hb : ∀ d, PA d → EN K B H0 Z tb S p (PB d)) (hP : ∀ d d', PA d → PB d d' → P (.lst [d, d'])) : EN K B H0 Z (tLst (tCons ta (tCons tb tNil))) S p P :=
  en_lst (PA := fun l => ∃ d d', PA d ∧ PB d d' ∧ l = [d, d']) hd (ena_cons (P2 := fun d l => ∃ d', PB d d' ∧ l = [d']) hd ha (fun d pd => ena_cons (P2 := fun _ l => l = []) hd (hb d pd) (fun _ _ => ena_nil hd rfl) (fun d' l h1 h2 => ⟨d', h1, by rw [h2]⟩)) (fun d l h1 h2 => by obtain ⟨d', h3, rfl⟩ := h2; exact ⟨d, d', h1, h3, rfl⟩))
    (fun l h => by obtain ⟨_, _, _, _, rfl⟩ := h; simp) (fun l h => by obtain ⟨d, d', h1, h2, rfl⟩ := h; exact hP d d' h1 h2)
theorem nil_eq {α : Type} {l : List α} (h : l = []) : l = [] := h
end
section
variable {P : Program} {w : World} {K : PySem.W.Frag} {mg : Str → Option Value} {base : Heap}
def ok_0 (ds : List D) : Prop := ds = []
def p_fam (_ : List D) (d : D) : Prop := Fam d
/-! small -/
abbrev s_law_small : Stmt := topS 66
abbrev N_law_small : List Str := ["_law_draws_here", "_law_word", "_law_size"]
theorem sc_law_small : FnScope N_law_small ["_law_draws_here"] (defScope s_law_small) := ⟨rfl, rfl, rfl, by decide +kernel, rfl, by decide +kernel, by decide +kernel⟩
theorem ok_law_small {f : Addr} {fd : FuncData} (F : Fun K "_law_small" "_law_small" s_law_small f fd) (T : Txt mg) (c_law_pick : Cl P w K mg base 1 "_law_pick" (PickP K)) (c_law_sized : Cl P w K mg base 2 "_law_sized" (Fresh K p_law_sized)) (c_law_mixed_lots : Cl P w K mg base 3 "_law_mixed_lots" (DrawP K ok_mix p_mixed))
    (c_law_fan : Cl P w K mg base 1 "_law_fan" (Fresh K p_law_fan)) (c_law_chosen : Cl P w K mg base 2 "_law_chosen" (DrawP K ok_ch p_chosen)) : FnOk P w K mg base CX0 4 f fd ["_law_draws_here"] (DrawP K ok_0 p_fam) := by
  refine draw_ok F sc_law_small (fun ds h => by cases h; rfl) (by decide) fun cdv A outer s H E hr => ?_
  have hu := hr.units
  refine ⟨_, (pss_cons (ps_set (i := 1) sc_law_small.nd rfl (Or.inl rfl) (pe_cl c_law_pick hr (by decide) (by rfl) (pa_cons (pv 0) (pa_cons pe_int pa_nil))))
    (pss_cons (ps_if (pt_cmpR (r := rIn K false) op_in_seq (pv 1) (pe_tup (pa_cons pe_int (pa_cons pe_int pa_nil))) rfl) (pss_one (ps_ret (pe_lst (pa_cons pe_int (pa_cons (pe_cl c_law_sized hr (by decide) (by rfl) (pa_cons pe_int (pa_cons pe_int pa_nil))) pa_nil))))) pss_nil)
    (pss_cons (ps_if (pt_cmpR op_eq (pv 1) pe_int (nomark _)) (pss_cons (ps_set (i := 2) sc_law_small.nd rfl (Or.inl rfl) (pe_op op_add pe_int (pe_cl c_law_pick hr (by decide) (by rfl) (pa_cons (pv 0) (pa_cons pe_int pa_nil)))))
    (pss_one (ps_ret (pe_lst (pa_cons (pv 2) (pa_cons (pe_cl c_law_mixed_lots hr (by decide) (by rfl) (pa_cons (pv 0) (pa_cons (pv 2) pa_nil))) pa_nil)))))) pss_nil)
    (pss_cons (ps_if (pt_cmpR op_eq (pv 1) pe_int (nomark _)) (pss_one (ps_ret (pe_lst (pa_cons pe_int (pa_cons (pe_callB (r := rSortY K) (cr_sortY hu) (by rfl) T.sorted (by decide +kernel) (pa_cons (pe_lst (pa_cons (pe_tup (pa_cons pe_int (pa_cons pe_int pa_nil))) (pa_cons (pe_tup (pa_cons pe_int (pa_cons pe_int pa_nil))) (pa_cons (pe_tup (pa_cons pe_int (pa_cons pe_int pa_nil))) (pa_cons (pe_tup (pa_cons pe_int (pa_cons pe_int pa_nil))) pa_nil))))) pa_nil)) pa_nil))))) pss_nil)
    (pss_cons (ps_if (pt_cmpR op_eq (pv 1) pe_int (nomark _)) (pss_one (ps_ret (pe_lst (pa_cons pe_int (pa_cons (pe_cl c_law_fan hr (by decide) (by rfl) (pa_cons pe_int pa_nil)) pa_nil))))) pss_nil)
    (pss_cons (ps_if (pt_cmpR op_eq (pv 1) pe_int (nomark _)) (pss_one (ps_ret (pe_lst (pa_cons pe_int (pa_cons (pe_cl c_law_sized hr (by decide) (by rfl) (pa_cons pe_int (pa_cons (pe_op op_add pe_int (pe_cl c_law_pick hr (by decide) (by rfl) (pa_cons (pv 0) (pa_cons pe_int pa_nil)))) pa_nil))) pa_nil))))) pss_nil)
    (pss_cons (ps_if (pt_cmpR op_eq (pv 1) pe_int (nomark _)) (pss_one (ps_ret (pe_lst (pa_cons pe_int (pa_cons (pe_cl c_law_chosen hr (by decide) (by rfl) (pa_cons (pv 0) (pa_cons (pe_cl c_law_sized hr (by decide) (by rfl) (pa_cons pe_int (pa_cons pe_int pa_nil))) (pa_cons pe_int pa_nil)))) pa_nil))))) pss_nil)
    (pss_one (ps_ret (pe_lst (pa_cons (pe_op op_add pe_int (pe_cl c_law_pick hr (by decide) (by rfl) (pa_cons (pv 0) (pa_cons pe_int pa_nil)))) (pa_cons (pe_lst (pa_cons (pe_tup (pa_cons pe_int pa_nil)) pa_nil)) pa_nil)))))))))))), ?_⟩
  rintro ds p rfl De o _ ns
  have hd0 : DS (fun ns => [dr p ns, .no, .no]) 0 p := ⟨fun _ => rfl, fun _ _ => rfl⟩
  refine sd_seq (sd_asgN (S := fun ns => [dr p ns, .no, .no]) hd0 (en_pick (b := 8) hd0 (fun _ => ec_int) (by decide)) (fun d ns hdp => sd_go ?_) ns)
  obtain ⟨x, hx, rfl⟩ := hdp
  have hd : DS (fun ns => [dr p ns, .val (iD x), .no]) 0 p := ⟨fun _ => rfl, fun _ _ => rfl⟩
  have ho : ∀ ns, ows ((fun ns => [dr p ns, .val (iD x), .no]) ns) = [p] := fun _ => rfl
  have sized : ∀ (n k : Nat) {Z : Hp → Prop} {E : List Slot}, n ≤ 12 → 1 ≤ k → EC K [p] H Z (tCall (Fresh K p_law_sized) [] E0 (tCons (tC (.int n)) (tCons (tC (.int k)) tNil))) E (lsD (KM.sized n k)) := fun n k {Z E} hn hk =>
    ec_new (ef_call (ea_cons ep_int (ea_cons ep_int ea_nil)) ⟨n, k, hn, hk, rfl, rfl⟩) (imAll_tD _)
  have tup : ∀ (a b : Nat) {Z : Hp → Prop} {E : List Slot}, EP K [p] H Z (tTup (tCons (tC (.int a)) (tCons (tC (.int b)) tNil))) E (tD [a, b]) := fun a b {Z E} => ep_tup (ea_cons ep_int (ea_cons ep_int ea_nil)) (by simp [zs])
  refine sd_seq (sd_if (et_in2 (k1 := 0) (k2 := 5) rfl rfl rfl) (fun _ => ?_) (fun _ => sd_go ?_))
  · exact sd_retD (S := fun ns => [dr p ns, .val (iD x), .no]) hd (ec_fam (n := 3) ec_int (sized 3 2 (by decide) (by decide))) o ⟨3, _, KM.sized_gf (by decide) (by decide), by decide, rfl⟩
  refine sd_seq (sd_if (et_eqN (k := 1) rfl rfl) (fun _ => ?_) (fun _ => sd_go ?_))
  · refine sd_seq (sd_asgN (S := fun ns => [dr p ns, .val (iD x), .no]) hd (en_op (P1 := fun d => d = iD 3) (P2 := fun _ d => ∃ x, x < 2 ∧ d = iD x) (P := fun d => ∃ n, 3 ≤ n ∧ n ≤ 4 ∧ d = iD n) hd (en_ec (d := iD 3) (fun _ => ec_int) hd rfl) (fun _ _ => en_pick (b := 2) hd (fun _ => ec_int) (by decide)) (fun a b h1 h2 => by
      obtain ⟨c, hc, rfl⟩ := h2
      subst h1
      exact ⟨_, r2_int (g := fun i j => i + j), rfl, 3 + c, by omega, by omega, by show D.int ((3 : Int) + (c : Int)) = D.int ((3 + c : Nat) : Int); congr 1⟩)) (fun d ns hdp => sd_go ?_) ns)
    obtain ⟨n, hn1, hn2, rfl⟩ := hdp
    have hd2 : DS (fun ns => [dr p ns, .val (iD x), .val (iD n)]) 0 p := ⟨fun _ => rfl, fun _ _ => rfl⟩
    refine sd_retDN (S := fun ns => [dr p ns, .val (iD x), .val (iD n)]) (P := Fam) hd2 (en_fam (PA := fun d => d = iD n) (PB := fun _ d => ∃ fs, fs ≠ [] ∧ (∀ l ∈ fs, Lot1 n l) ∧ d = lsD (KM.leastL fs)) hd2 (en_ec (d := iD n) (fun _ => ec_var rfl) hd2 rfl) (fun _ _ => en_draw hd2 (fun _ => eac_cons (ec_var (d := iD n) rfl) eac_nil) ⟨n, by omega, by omega, rfl⟩ (fun d h => h n rfl) (.inr fun _ => rfl))
      (fun d d' h1 h2 => ?_)) o (fun d h => h) ns
    obtain ⟨fs, f1, f2, rfl⟩ := h2
    subst h1
    exact ⟨n, _, KM.least_gf (by omega) f1 (fun l hl => (f2 l hl).asc) (fun l hl => (f2 l hl).ne) (fun l hl => (f2 l hl).lt), by omega, rfl⟩
  refine sd_seq (sd_if (et_eqN (k := 2) rfl rfl) (fun _ => ?_) (fun _ => sd_go ?_))
  · refine sd_retD (S := fun ns => [dr p ns, .val (iD x), .no]) hd (ec_fam (n := 4) ec_int (ec_new (ef_cb (ea_cons (EF.p (ef_lst (ea_cons (tup 0 1) (ea_cons (tup 0 2) (ea_cons (tup 0 3) (ea_cons (tup 1 2) ea_nil)))))) ea_nil) (rf_sortY (ts := [[0, 1], [0, 2], [0, 3], [1, 2]]) (.inr (by decide)))) (imAll_tD _))) o ⟨4, _, KM.four, by decide, rfl⟩
  refine sd_seq (sd_if (et_eqN (k := 3) rfl rfl) (fun _ => ?_) (fun _ => sd_go ?_))
  · exact sd_retD (S := fun ns => [dr p ns, .val (iD x), .no]) hd (ec_fam (n := 4) ec_int (ec_new (ef_call (ea_cons (ep_int (i := ((4 : Nat) : Int))) ea_nil) ⟨4, by decide, by decide, rfl, rfl⟩) (imAll_tD _))) o ⟨4, _, KM.fan4, by decide, rfl⟩
  refine sd_seq (sd_if (et_eqN (k := 4) rfl rfl) (fun _ => ?_) (fun _ => sd_go ?_))
  · refine sd_retDN (S := fun ns => [dr p ns, .val (iD x), .no]) (P := Fam) hd (en_fam (PA := fun d => d = iD 4) (PB := fun _ d => ∃ k, 2 ≤ k ∧ k ≤ 3 ∧ d = lsD (KM.sized 4 k)) hd (en_ec (d := iD 4) (fun _ => ec_int) hd rfl)
      (fun _ _ => en_callF (PA := fun l => ∃ k, 2 ≤ k ∧ k ≤ 3 ∧ l = [iD 4, iD k]) hd (ena_cons (P1 := fun d => d = iD 4) (P2 := fun _ l => ∃ k, 2 ≤ k ∧ k ≤ 3 ∧ l = [iD k]) hd (en_ec (d := iD 4) (fun _ => ec_int) hd rfl)
        (fun _ _ => ena_cons (P1 := fun d => ∃ k, 2 ≤ k ∧ k ≤ 3 ∧ d = iD k) (P2 := fun _ l => l = []) hd (en_op (P1 := fun d => d = iD 2) (P2 := fun _ d => ∃ x, x < 2 ∧ d = iD x) hd (en_ec (d := iD 2) (fun _ => ec_int) hd rfl) (fun _ _ => en_pick (b := 2) hd (fun _ => ec_int) (by decide)) (fun a b h1 h2 => by
          obtain ⟨c, hc, rfl⟩ := h2
          subst h1
          exact ⟨_, r2_int (g := fun i j => i + j), rfl, 2 + c, by omega, by omega, by show D.int ((2 : Int) + (c : Int)) = D.int ((2 + c : Nat) : Int); congr 1⟩)) (fun _ _ => ena_nil hd rfl) (fun d l h1 h2 => by obtain ⟨k, a, b, rfl⟩ := h1; exact ⟨k, a, b, by rw [h2]⟩)) (fun d l h1 h2 => by obtain ⟨k, a, b, rfl⟩ := h2; exact ⟨k, a, b, by rw [h1]⟩))
        (fun l h => by obtain ⟨k, a, b, rfl⟩ := h; exact ⟨_, ⟨4, k, by decide, by omega, rfl, rfl⟩, imAll_tD _, k, a, b, rfl⟩))
      (fun d d' h1 h2 => ?_)) o (fun d h => h) ns
    obtain ⟨k, a, b, rfl⟩ := h2
    subst h1
    exact ⟨4, _, KM.sized_gf (by omega) (by omega), by decide, rfl⟩
  refine sd_seq (sd_if (et_eqN (k := 6) rfl rfl) (fun _ => ?_) (fun _ => sd_go ?_))
  · refine sd_retDN (S := fun ns => [dr p ns, .val (iD x), .no]) (P := Fam) hd (en_fam (PA := fun d => d = iD 4) (PB := fun _ d => ∃ ls' : List (List Nat), ls'.Sublist (KM.sized 4 2) ∧ 2 ≤ ls'.length ∧ d = lsD ls') hd (en_ec (d := iD 4) (fun _ => ec_int) hd rfl)
      (fun _ _ => en_draw hd (fun _ => eac_cons (sized 4 2 (by decide) (by decide)) (eac_cons (ec_int (k := ((2 : Nat) : Int))) eac_nil)) ⟨KM.sized 4 2, 2, by rw [KM.sized42]; decide, by rw [KM.sized42]; decide, rfl⟩ (fun d h => h _ _ rfl) (.inr fun _ => rfl))
      (fun d d' h1 h2 => ?_)) o (fun d h => h) ns
    obtain ⟨ls', f1, f2, rfl⟩ := h2
    subst h1
    exact ⟨4, ls', (KM.sized_gf (by decide) (by decide)).sub f1 (fun z => by rw [z] at f2; simp at f2), by decide, rfl⟩
  · refine sd_retDN (S := fun ns => [dr p ns, .val (iD x), .no]) (P := Fam) hd (en_fam (PA := fun d => ∃ n, 1 ≤ n ∧ n ≤ 2 ∧ d = iD n) (PB := fun _ d => d = lsD [[0]]) hd (en_op (P1 := fun d => d = iD 1) (P2 := fun _ d => ∃ x, x < 2 ∧ d = iD x) hd (en_ec (d := iD 1) (fun _ => ec_int) hd rfl) (fun _ _ => en_pick (b := 2) hd (fun _ => ec_int) (by decide)) (fun a b h1 h2 => by
          obtain ⟨c, hc, rfl⟩ := h2
          subst h1
          exact ⟨_, r2_int (g := fun i j => i + j), rfl, 1 + c, by omega, by omega, by show D.int ((1 : Int) + (c : Int)) = D.int ((1 + c : Nat) : Int); congr 1⟩))
      (fun _ _ => en_ec (d := lsD [[0]]) (fun _ => ec_new (ef_lst (ea_cons (ep_tup (ea_cons ep_int ea_nil) (by simp [zs])) ea_nil)) rfl) hd rfl)
      (fun d d' h1 h2 => ?_)) o (fun d h => h) ns
    obtain ⟨n, a, b, rfl⟩ := h1
    subst h2
    exact ⟨n, _, KM.one1 a, by omega, rfl⟩
end
end Y
set_option Elab.async false
set_option linter.all false
set_option autoImplicit false
set_option maxRecDepth 100000
set_option maxHeartbeats 4000000
namespace Y
open PySem L2
section
variable {P : Program} {w : World} {K : PySem.W.Frag} {mg : Str → Option Value} {base : Heap}
/-! middle -/
abbrev s_law_middle : Stmt := topS 67
abbrev N_law_middle : List Str := ["_law_draws_here", "_law_word"]
theorem sc_law_middle : FnScope N_law_middle ["_law_draws_here"] (defScope s_law_middle) := ⟨rfl, rfl, rfl, by decide +kernel, rfl, by decide +kernel, by decide +kernel⟩
theorem lot1_const {n : Nat} {l : List Nat} (a : KM.Asc l) (b : l ≠ []) (c : ∀ x ∈ l, x < n) : Lot1 n l := ⟨a, b, c⟩
theorem ok_law_middle {f : Addr} {fd : FuncData} (F : Fun K "_law_middle" "_law_middle" s_law_middle f fd) (T : Txt mg) (c_law_pick : Cl P w K mg base 1 "_law_pick" (PickP K)) (c_law_sized : Cl P w K mg base 2 "_law_sized" (Fresh K p_law_sized)) (c_law_mixed_lots : Cl P w K mg base 3 "_law_mixed_lots" (DrawP K ok_mix p_mixed))
    (c_law_fan : Cl P w K mg base 1 "_law_fan" (Fresh K p_law_fan)) (c_law_ring : Cl P w K mg base 1 "_law_ring" (Fresh K p_law_ring)) (c_law_chosen : Cl P w K mg base 2 "_law_chosen" (DrawP K ok_ch p_chosen)) (c_law_least : Cl P w K mg base 2 "_law_least" (Fresh K p_law_least)) :
    FnOk P w K mg base CX0 4 f fd ["_law_draws_here"] (DrawP K ok_0 p_fam) := by
  refine draw_ok F sc_law_middle (fun ds h => by cases h; rfl) (by decide) fun cdv A outer s H E hr => ?_
  refine ⟨_, (pss_cons (ps_set (i := 1) sc_law_middle.nd rfl (Or.inl rfl) (pe_cl c_law_pick hr (by decide) (by rfl) (pa_cons (pv 0) (pa_cons pe_int pa_nil))))
    (pss_cons (ps_if (pt_cmpR (r := rIn K false) op_in_seq (pv 1) (pe_tup (pa_cons pe_int (pa_cons pe_int pa_nil))) rfl) (pss_one (ps_ret (pe_lst (pa_cons pe_int (pa_cons (pe_cl c_law_ring hr (by decide) (by rfl) (pa_cons pe_int pa_nil)) pa_nil))))) pss_nil)
    (pss_cons (ps_if (pt_cmpR op_eq (pv 1) pe_int (nomark _)) (pss_one (ps_ret (pe_lst (pa_cons pe_int (pa_cons (pe_cl c_law_mixed_lots hr (by decide) (by rfl) (pa_cons (pv 0) (pa_cons pe_int pa_nil))) pa_nil))))) pss_nil)
    (pss_cons (ps_if (pt_cmpR op_eq (pv 1) pe_int (nomark _)) (pss_one (ps_ret (pe_lst (pa_cons pe_int (pa_cons (pe_cl c_law_fan hr (by decide) (by rfl) (pa_cons pe_int pa_nil)) pa_nil))))) pss_nil)
    (pss_cons (ps_if (pt_cmpR op_eq (pv 1) pe_int (nomark _)) (pss_one (ps_ret (pe_lst (pa_cons pe_int (pa_cons (pe_cl c_law_chosen hr (by decide) (by rfl) (pa_cons (pv 0) (pa_cons (pe_cl c_law_sized hr (by decide) (by rfl) (pa_cons pe_int (pa_cons pe_int pa_nil))) (pa_cons pe_int pa_nil)))) pa_nil))))) pss_nil)
    (pss_cons (ps_if (pt_cmpR op_eq (pv 1) pe_int (nomark _)) (pss_one (ps_ret (pe_lst (pa_cons pe_int (pa_cons (pe_cl c_law_sized hr (by decide) (by rfl) (pa_cons pe_int (pa_cons (pe_op op_sub pe_int (pe_cl c_law_pick hr (by decide) (by rfl) (pa_cons (pv 0) (pa_cons pe_int pa_nil)))) pa_nil))) pa_nil))))) pss_nil)
    (pss_cons (ps_if (pt_cmpR op_eq (pv 1) pe_int (nomark _)) (pss_one (ps_ret (pe_lst (pa_cons pe_int (pa_cons (pe_cl c_law_least hr (by decide) (by rfl) (pa_cons (pe_op op_cat (pe_lst (pa_cons (pe_tup (pa_cons pe_int (pa_cons pe_int pa_nil))) (pa_cons (pe_tup (pa_cons pe_int (pa_cons pe_int pa_nil))) (pa_cons (pe_tup (pa_cons pe_int (pa_cons pe_int pa_nil))) (pa_cons (pe_tup (pa_cons pe_int (pa_cons pe_int pa_nil))) pa_nil))))) (pe_slice sl_list (pe_cl c_law_chosen hr (by decide) (by rfl) (pa_cons (pv 0) (pa_cons (pe_cl c_law_sized hr (by decide) (by rfl) (pa_cons pe_int (pa_cons pe_int pa_nil))) (pa_cons pe_int pa_nil)))) (po_some pe_int) (po_some pe_int))) pa_nil)) pa_nil))))) pss_nil)
    (pss_one (ps_ret (pe_lst (pa_cons pe_int (pa_cons (pe_cl c_law_ring hr (by decide) (by rfl) (pa_cons pe_int pa_nil)) pa_nil)))))))))))), ?_⟩
  rintro ds p rfl De o _ ns
  have hd0 : DS (fun ns => [dr p ns, .no]) 0 p := ⟨fun _ => rfl, fun _ _ => rfl⟩
  refine sd_seq (sd_asgN (S := fun ns => [dr p ns, .no]) hd0 (en_pick (b := 8) hd0 (fun _ => ec_int) (by decide)) (fun d ns hdp => sd_go ?_) ns)
  obtain ⟨x, hx, rfl⟩ := hdp
  have hd : DS (fun ns => [dr p ns, .val (iD x)]) 0 p := ⟨fun _ => rfl, fun _ _ => rfl⟩
  have sized : ∀ (n k : Nat) {Z : Hp → Prop} {E : List Slot}, n ≤ 12 → 1 ≤ k → EC K [p] H Z (tCall (Fresh K p_law_sized) [] E0 (tCons (tC (.int n)) (tCons (tC (.int k)) tNil))) E (lsD (KM.sized n k)) := fun n k {Z E} hn hk =>
    ec_new (ef_call (ea_cons ep_int (ea_cons ep_int ea_nil)) ⟨n, k, hn, hk, rfl, rfl⟩) (imAll_tD _)
  have tup : ∀ (a b : Nat) {Z : Hp → Prop} {E : List Slot}, EP K [p] H Z (tTup (tCons (tC (.int a)) (tCons (tC (.int b)) tNil))) E (tD [a, b]) := fun a b {Z E} => ep_tup (ea_cons ep_int (ea_cons ep_int ea_nil)) (by simp [zs])
  refine sd_seq (sd_if (et_in2 (k1 := 0) (k2 := 4) rfl rfl rfl) (fun _ => ?_) (fun _ => sd_go ?_))
  · exact sd_retD (S := fun ns => [dr p ns, .val (iD x)]) hd (ec_fam (n := 5) ec_int (ec_new (ef_call (ea_cons (ep_int (i := ((5 : Nat) : Int))) ea_nil) ⟨5, by decide, by decide, rfl, rfl⟩) (imAll_tD _))) o ⟨5, _, KM.ring5, by decide, rfl⟩
  refine sd_seq (sd_if (et_eqN (k := 1) rfl rfl) (fun _ => ?_) (fun _ => sd_go ?_))
  · refine sd_retDN (S := fun ns => [dr p ns, .val (iD x)]) (P := Fam) hd (en_fam (PA := fun d => d = iD 5) (PB := fun _ d => ∃ fs, fs ≠ [] ∧ (∀ l ∈ fs, Lot1 5 l) ∧ d = lsD (KM.leastL fs)) hd (en_ec (d := iD 5) (fun _ => ec_int) hd rfl) (fun _ _ => en_draw hd (fun _ => eac_cons (ec_int (k := ((5 : Nat) : Int))) eac_nil) ⟨5, by decide, by decide, rfl⟩ (fun d h => h 5 rfl) (.inr fun _ => rfl))
      (fun d d' h1 h2 => ?_)) o (fun d h => h) ns
    obtain ⟨fs, f1, f2, rfl⟩ := h2
    subst h1
    exact ⟨5, _, KM.least_gf (by decide) f1 (fun l hl => (f2 l hl).asc) (fun l hl => (f2 l hl).ne) (fun l hl => (f2 l hl).lt), by decide, rfl⟩
  refine sd_seq (sd_if (et_eqN (k := 2) rfl rfl) (fun _ => ?_) (fun _ => sd_go ?_))
  · exact sd_retD (S := fun ns => [dr p ns, .val (iD x)]) hd (ec_fam (n := 5) ec_int (ec_new (ef_call (ea_cons (ep_int (i := ((5 : Nat) : Int))) ea_nil) ⟨5, by decide, by decide, rfl, rfl⟩) (imAll_tD _))) o ⟨5, _, KM.fan5, by decide, rfl⟩
  refine sd_seq (sd_if (et_eqN (k := 3) rfl rfl) (fun _ => ?_) (fun _ => sd_go ?_))
  · refine sd_retDN (S := fun ns => [dr p ns, .val (iD x)]) (P := Fam) hd (en_fam (PA := fun d => d = iD 5) (PB := fun _ d => ∃ ls' : List (List Nat), ls'.Sublist (KM.sized 5 2) ∧ 4 ≤ ls'.length ∧ d = lsD ls') hd (en_ec (d := iD 5) (fun _ => ec_int) hd rfl)
      (fun _ _ => en_draw hd (fun _ => eac_cons (sized 5 2 (by decide) (by decide)) (eac_cons (ec_int (k := ((4 : Nat) : Int))) eac_nil)) ⟨KM.sized 5 2, 4, by rw [KM.sized52]; decide, by rw [KM.sized52]; decide, rfl⟩ (fun d h => h _ _ rfl) (.inr fun _ => rfl))
      (fun d d' h1 h2 => ?_)) o (fun d h => h) ns
    obtain ⟨ls', f1, f2, rfl⟩ := h2
    subst h1
    exact ⟨5, ls', (KM.sized_gf (by decide) (by decide)).sub f1 (fun z => by rw [z] at f2; simp at f2), by decide, rfl⟩
  refine sd_seq (sd_if (et_eqN (k := 5) rfl rfl) (fun _ => ?_) (fun _ => sd_go ?_))
  · refine sd_retDN (S := fun ns => [dr p ns, .val (iD x)]) (P := Fam) hd (en_fam (PA := fun d => d = iD 5) (PB := fun _ d => ∃ k, 2 ≤ k ∧ k ≤ 3 ∧ d = lsD (KM.sized 5 k)) hd (en_ec (d := iD 5) (fun _ => ec_int) hd rfl)
      (fun _ _ => en_callF (PA := fun l => ∃ k, 2 ≤ k ∧ k ≤ 3 ∧ l = [iD 5, iD k]) hd (ena_cons (P1 := fun d => d = iD 5) (P2 := fun _ l => ∃ k, 2 ≤ k ∧ k ≤ 3 ∧ l = [iD k]) hd (en_ec (d := iD 5) (fun _ => ec_int) hd rfl)
        (fun _ _ => ena_cons (P1 := fun d => ∃ k, 2 ≤ k ∧ k ≤ 3 ∧ d = iD k) (P2 := fun _ l => l = []) hd (en_op (P1 := fun d => d = iD 3) (P2 := fun _ d => ∃ x, x < 2 ∧ d = iD x) hd (en_ec (d := iD 3) (fun _ => ec_int) hd rfl) (fun _ _ => en_pick (b := 2) hd (fun _ => ec_int) (by decide)) (fun a b h1 h2 => by
          obtain ⟨c, hc, rfl⟩ := h2
          subst h1
          exact ⟨_, r2_int (g := fun i j => i - j), rfl, 3 - c, by omega, by omega, by show D.int ((3 : Int) - (c : Int)) = D.int ((3 - c : Nat) : Int); congr 1; omega⟩)) (fun _ _ => ena_nil hd rfl) (fun d l h1 h2 => by obtain ⟨k, a, b, rfl⟩ := h1; exact ⟨k, a, b, by rw [h2]⟩)) (fun d l h1 h2 => by obtain ⟨k, a, b, rfl⟩ := h2; exact ⟨k, a, b, by rw [h1]⟩))
        (fun l h => by obtain ⟨k, a, b, rfl⟩ := h; exact ⟨_, ⟨5, k, by decide, by omega, rfl, rfl⟩, imAll_tD _, k, a, b, rfl⟩))
      (fun d d' h1 h2 => ?_)) o (fun d h => h) ns
    obtain ⟨k, a, b, rfl⟩ := h2
    subst h1
    exact ⟨5, _, KM.sized_gf (by omega) (by omega), by decide, rfl⟩
  refine sd_seq (sd_if (et_eqN (k := 6) rfl rfl) (fun _ => ?_) (fun _ => sd_go ?_))
  · have lots : ∀ ls' : List (List Nat), ls'.Sublist (KM.sized 5 3) → ∀ l ∈ ([[0, 1], [0, 2], [1, 2], [3, 4]] ++ ls' : List (List Nat)), Lot1 5 l := fun ls' h l hl => by
      rcases List.mem_append.mp hl with hl | hl
      · have h1 : ∀ l ∈ ([[0, 1], [0, 2], [1, 2], [3, 4]] : List (List Nat)), KM.Asc l ∧ l ≠ [] ∧ ∀ x ∈ l, x < 5 := by decide
        exact ⟨(h1 l hl).1, (h1 l hl).2.1, (h1 l hl).2.2⟩
      · have := KM.sized_mem.mp (h.subset hl)
        exact ⟨this.1, fun z => by rw [z] at this; simp at this, this.2.1⟩
    refine sd_retDN (S := fun ns => [dr p ns, .val (iD x)]) (P := Fam) hd (en_fam (PA := fun d => d = iD 5) (PB := fun _ d => ∃ ls' : List (List Nat), ls'.Sublist (KM.sized 5 3) ∧ d = lsD (KM.leastL ([[0, 1], [0, 2], [1, 2], [3, 4]] ++ ls'))) hd (en_ec (d := iD 5) (fun _ => ec_int) hd rfl)
      (fun _ _ => en_callF (PA := fun l => ∃ ls' : List (List Nat), ls'.Sublist (KM.sized 5 3) ∧ l = [lsD ([[0, 1], [0, 2], [1, 2], [3, 4]] ++ ls')]) hd (ena_cons (P1 := fun d => ∃ ls' : List (List Nat), ls'.Sublist (KM.sized 5 3) ∧ d = lsD ([[0, 1], [0, 2], [1, 2], [3, 4]] ++ ls')) (P2 := fun _ l => l = []) hd
        (en_catS (P1 := fun l => ∃ ls' : List (List Nat), ls'.Sublist (KM.sized 5 3) ∧ l = ls'.map tD) (m := ([[0, 1], [0, 2], [1, 2], [3, 4]] : List (List Nat)).map tD) hd (fun _ => ef_lst (ea_cons (tup 0 1) (ea_cons (tup 0 2) (ea_cons (tup 1 2) (ea_cons (tup 3 4) ea_nil))))) (imAll_tD _)
          (en_draw hd (fun _ => eac_cons (sized 5 3 (by decide) (by decide)) (eac_cons (ec_int (k := ((0 : Nat) : Int))) eac_nil)) ⟨KM.sized 5 3, 0, by rw [KM.sized53]; decide, by decide, rfl⟩ (fun d h => by
            obtain ⟨ls', h1, _, rfl⟩ := h _ _ rfl
            exact ⟨_, rfl, ls', h1, rfl⟩) (.inr fun _ => rfl)) ⟨by simp, fun l h => by
            obtain ⟨ls', h1, rfl⟩ := h
            have := h1.length_le
            rw [KM.sized53] at this
            rw [List.length_map]
            omega⟩ (fun l l' h1 h2 => by
            obtain ⟨ls', h1, rfl⟩ := h1
            obtain ⟨ls2, h3, rfl⟩ := List.sublist_map_iff.mp h2
            exact ⟨ls2, h3.trans h1, by unfold lsD; rw [List.map_append]⟩))
        (fun _ _ => ena_nil hd rfl) (fun d l h1 h2 => by obtain ⟨ls', h1, rfl⟩ := h1; exact ⟨ls', h1, by rw [h2]⟩))
        (fun l h => by
          obtain ⟨ls', h1, rfl⟩ := h
          have hlen := h1.length_le
          rw [KM.sized53] at hlen
          exact ⟨_, ⟨_, ⟨by simp; omega, fun l hl => (lots ls' h1 l hl).sm (by decide)⟩, fun l hl => (lots ls' h1 l hl).ne, rfl, rfl⟩, imAll_tD _, ls', h1, rfl⟩))
      (fun d d' h1 h2 => ?_)) o (fun d h => h) ns
    obtain ⟨ls', f1, rfl⟩ := h2
    subst h1
    exact ⟨5, _, KM.least_gf (by decide) (by simp) (fun l hl => (lots ls' f1 l hl).asc) (fun l hl => (lots ls' f1 l hl).ne) (fun l hl => (lots ls' f1 l hl).lt), by decide, rfl⟩
  · exact sd_retD (S := fun ns => [dr p ns, .val (iD x)]) hd (ec_fam (n := 6) ec_int (ec_new (ef_call (ea_cons (ep_int (i := ((6 : Nat) : Int))) ea_nil) ⟨6, by decide, by decide, rfl, rfl⟩) (imAll_tD _))) o ⟨6, _, KM.ring6, by decide, rfl⟩
/-! any -/
abbrev s_law_any : Stmt := topS 68
abbrev N_law_any : List Str := ["_law_draws_here", "_law_word", "_law_found", "_law_size", "_law_lots"]
theorem sc_law_any : FnScope N_law_any ["_law_draws_here"] (defScope s_law_any) := ⟨rfl, rfl, rfl, by decide +kernel, rfl, by decide +kernel, by decide +kernel⟩
def p_any (_ : List D) (d : D) : Prop := ∃ (n : Nat) (ls : List (List Nat)), KM.GF n ls ∧ n ≤ 7 ∧ d = famL n ls
theorem sd_asgC {B : List Addr} {H0 : Hp} {Z : Hp → Prop} {E : List Slot} {te : TE} {d : D} {De : Ends} {i : Nat} (h : EC K B H0 Z te E d) (k : SD K B H0 Z tNext De (E.set i (.val d))) : SD K B H0 Z (tAsg te (gName i)) De E := fun σ H e =>
  h σ H e _ fun v H1 e1 h1 => k _ H1 ((e.ext e1).setC h1)
theorem ent_pick {B : List Addr} {H0 : Hp} {Z : Hp → Prop} {S : List Int → List Slot} {i b : Nat} {c : Int} {p : Addr} (hd : DS S i p) (hb : 1 ≤ b) : ENT K B H0 Z (tTest (tOp rEq (tCall (PickP K) [] E0 (tCons (tVar i) (tCons (tC (.int b)) tNil))) (tC (.int c)))) S p (fun _ => True) :=
  ent_ev (P1 := fun d => ∃ b, d = .bl b) (en_op (P1 := fun d => ∃ x, x < b ∧ d = iD x) (P2 := fun _ d => d = .int c) hd (en_pick hd (fun _ => ec_int) hb) (fun _ _ => en_ec (d := .int c) (fun _ => ec_int) hd rfl) (fun x y hx hy => by
    obtain ⟨a, _, rfl⟩ := hx
    subst hy
    exact ⟨_, r2_eqI (i := (a : Int)) (j := c), rfl, _, rfl⟩)) (fun d hd => by obtain ⟨b, rfl⟩ := hd; exact ⟨b, rfl, trivial⟩)
theorem ok_law_any {f : Addr} {fd : FuncData} (F : Fun K "_law_any" "_law_any" s_law_any f fd) (T : Txt mg) (c_law_pick : Cl P w K mg base 1 "_law_pick" (PickP K)) (c_law_small : Cl P w K mg base 4 "_law_small" (DrawP K ok_0 p_fam)) (c_law_middle : Cl P w K mg base 4 "_law_middle" (DrawP K ok_0 p_fam))
    (c_law_blocker : Cl P w K mg base 3 "_law_blocker" (Fresh K p_law_blocker)) (c_law_moved : Cl P w K mg base 2 "_law_moved" (DrawP K ok_mov p_moved)) : FnOk P w K mg base CX0 5 f fd ["_law_draws_here"] (DrawP K ok_0 p_any) := by
  refine draw_ok F sc_law_any (fun ds h => by cases h; rfl) (by decide) fun cdv A outer s H E hr => ?_
  refine ⟨_, (pss_cons (ps_set (i := 1) sc_law_any.nd rfl (Or.inl rfl) (pe_cl c_law_pick hr (by decide) (by rfl) (pa_cons (pv 0) (pa_cons pe_int pa_nil))))
    (pss_cons (ps_if (pt_cmpR (r := rIn K false) op_in_seq (pv 1) (pe_tup (pa_cons pe_int (pa_cons pe_int pa_nil))) rfl) (pss_one (ps_set (i := 2) sc_law_any.nd rfl (Or.inl rfl) (pe_cl c_law_middle hr (by decide) (by rfl) (pa_cons (pv 0) pa_nil)))) (pss_one (ps_set (i := 2) sc_law_any.nd rfl (Or.inl rfl) (pe_cl c_law_small hr (by decide) (by rfl) (pa_cons (pv 0) pa_nil)))))
    (pss_cons (ps_set (i := 3) sc_law_any.nd rfl (Or.inl rfl) (pe_ix (r := rIxL K) ix_list (pv 2) pe_int (fun _ _ => rfl)))
    (pss_cons (ps_set (i := 4) sc_law_any.nd rfl (Or.inl rfl) (pe_ix (r := rIxL K) ix_list (pv 2) pe_int (fun _ _ => rfl)))
    (pss_cons (ps_if (pt_cmpR op_eq (pe_cl c_law_pick hr (by decide) (by rfl) (pa_cons (pv 0) (pa_cons pe_int pa_nil))) pe_int (nomark _)) (pss_one (ps_set (i := 4) sc_law_any.nd rfl (Or.inl rfl) (pe_cl c_law_blocker hr (by decide) (by rfl) (pa_cons (pv 3) (pa_cons (pv 4) pa_nil))))) pss_nil)
    (pss_cons (ps_set (i := 4) sc_law_any.nd rfl (Or.inl rfl) (pe_cl c_law_moved hr (by decide) (by rfl) (pa_cons (pv 0) (pa_cons (pv 3) (pa_cons (pv 4) pa_nil)))))
    (pss_cons (ps_if (pt_cmpR op_eq (pe_cl c_law_pick hr (by decide) (by rfl) (pa_cons (pv 0) (pa_cons pe_int pa_nil))) pe_int (nomark _)) (pss_one (ps_set (i := 3) sc_law_any.nd rfl (Or.inl rfl) (pe_op op_add (pv 3) pe_int))) pss_nil)
    (pss_one (ps_ret (pe_lst (pa_cons (pv 3) (pa_cons (pv 4) pa_nil)))))))))))), ?_⟩
  rintro ds p rfl De o _ ns
  have hd0 : DS (fun ns => [dr p ns, .no, .no, .no, .no]) 0 p := ⟨fun _ => rfl, fun _ _ => rfl⟩
  refine sd_seq (sd_asgN (S := fun ns => [dr p ns, .no, .no, .no, .no]) hd0 (en_pick (b := 6) hd0 (fun _ => ec_int) (by decide)) (fun d ns hdp => sd_go ?_) ns)
  obtain ⟨x, hx, rfl⟩ := hdp
  have hd1 : DS (fun ns => [dr p ns, .val (iD x), .no, .no, .no]) 0 p := ⟨fun _ => rfl, fun _ _ => rfl⟩
  -- what follows the choice
  have rest : ∀ (ns : List Int) (n : Nat) (ls : List (List Nat)), KM.GF n ls → n ≤ 6 → SD K [p] H (fun _ => True) (tSeq (tAsg (tOp (rIxL K) (tVar 2) (tC (.int 0))) (gName 3)) (tSeq (tAsg (tOp (rIxL K) (tVar 2) (tC (.int 1))) (gName 4))
      (tSeq (tIfS (tTest (tOp rEq (tCall (PickP K) [] E0 (tCons (tVar 0) (tCons (tC (.int 2)) tNil))) (tC (.int 1)))) (tAsg (tCall (Fresh K p_law_blocker) [] E0 (tCons (tVar 3) (tCons (tVar 4) tNil))) (gName 4)) tNext)
      (tSeq (tAsg (tCall (DrawP K ok_mov p_moved) [] E0 (tCons (tVar 0) (tCons (tVar 3) (tCons (tVar 4) tNil)))) (gName 4))
      (tSeq (tIfS (tTest (tOp rEq (tCall (PickP K) [] E0 (tCons (tVar 0) (tCons (tC (.int 10)) tNil))) (tC (.int 9)))) (tAsg (tOp (rI0 fun i j => .int (i + j)) (tVar 3) (tC (.int 1))) (gName 3)) tNext)
      (tRet (tLst (tCons (tVar 3) (tCons (tVar 4) tNil)))))))))
      De [dr p ns, .val (iD x), .val (famL n ls), .no, .no] := fun ns n ls g hn => by
    refine sd_seq (sd_asgC (d := iD n) (ec_ixL (l := [iD n, lsD ls]) (ec_var rfl) rfl) (sd_go ?_))
    refine sd_seq (sd_asgC (d := lsD ls) (ec_ixL (l := [iD n, lsD ls]) (ec_var rfl) rfl) (sd_go ?_))
    have last : ∀ (ns : List Int) (m : Nat) (ls' : List (List Nat)), KM.GF m ls' → m ≤ 7 → SD K [p] H (fun _ => True) (tRet (tLst (tCons (tVar 3) (tCons (tVar 4) tNil)))) De [dr p ns, .val (iD x), .val (famL n ls), .val (iD m), .val (lsD ls')] := fun ns m ls' g' hm => by
      have hd : DS (fun ns => [dr p ns, .val (iD x), .val (famL n ls), .val (iD m), .val (lsD ls')]) 0 p := ⟨fun _ => rfl, fun _ _ => rfl⟩
      exact sd_retD (S := fun ns => [dr p ns, .val (iD x), .val (famL n ls), .val (iD m), .val (lsD ls')]) hd (ec_fam (ec_var rfl) (ec_var rfl)) o ⟨m, ls', g', hm, rfl⟩
    have tail : ∀ (ns : List Int) (ls' : List (List Nat)), KM.GF n ls' → SD K [p] H (fun _ => True) (tSeq (tAsg (tCall (DrawP K ok_mov p_moved) [] E0 (tCons (tVar 0) (tCons (tVar 3) (tCons (tVar 4) tNil)))) (gName 4))
      (tSeq (tIfS (tTest (tOp rEq (tCall (PickP K) [] E0 (tCons (tVar 0) (tCons (tC (.int 10)) tNil))) (tC (.int 9)))) (tAsg (tOp (rI0 fun i j => .int (i + j)) (tVar 3) (tC (.int 1))) (gName 3)) tNext)
      (tRet (tLst (tCons (tVar 3) (tCons (tVar 4) tNil)))))) De [dr p ns, .val (iD x), .val (famL n ls), .val (iD n), .val (lsD ls')] := fun ns ls' g' => by
      have hd : DS (fun ns => [dr p ns, .val (iD x), .val (famL n ls), .val (iD n), .val (lsD ls')]) 0 p := ⟨fun _ => rfl, fun _ _ => rfl⟩
      refine sd_seq (sd_asgN (S := fun ns => [dr p ns, .val (iD x), .val (famL n ls), .val (iD n), .val (lsD ls')]) (P := fun d => ∃ names : List Nat, names.Perm (List.range n) ∧ d = lsD (KM.srt (ls'.map (mv names)))) hd
        (en_draw hd (fun _ => eac_cons (ec_var (d := iD n) rfl) (eac_cons (ec_var (d := lsD ls') rfl) eac_nil)) ⟨n, ls', by omega, by have := gf_small g' (by omega); omega, gf_lot1 g', rfl⟩ (fun d h => h n ls' rfl) (.inr fun _ => rfl)) (fun d ns hdp => sd_go ?_) ns)
      obtain ⟨names, hnm, rfl⟩ := hdp
      have g2 : KM.GF n (KM.srt (ls'.map (mv names))) := KM.moved_gf hnm g'
      have hd2 : DS (fun ns => [dr p ns, .val (iD x), .val (famL n ls), .val (iD n), .val (lsD (KM.srt (ls'.map (mv names))))]) 0 p := ⟨fun _ => rfl, fun _ _ => rfl⟩
      refine sd_seq (sd_ifN (S := fun ns => [dr p ns, .val (iD x), .val (famL n ls), .val (iD n), .val (lsD (KM.srt (ls'.map (mv names))))]) (ent_pick (b := 10) hd2 (by decide)) (fun _ ns => ?_) (fun _ ns => sd_go (last ns n _ g2 (by omega))) ns)
      refine sd_asg (d := iD (n + 1)) (ep_is (ep_op (ep_var (i := 3) (d := iD n) rfl) ep_n1 r2_int) rfl) rfl (sd_go (last ns (n + 1) _ (g2.up (by omega)) (by omega)))
    have hd : DS (fun ns => [dr p ns, .val (iD x), .val (famL n ls), .val (iD n), .val (lsD ls)]) 0 p := ⟨fun _ => rfl, fun _ _ => rfl⟩
    refine sd_seq (sd_ifN (S := fun ns => [dr p ns, .val (iD x), .val (famL n ls), .val (iD n), .val (lsD ls)]) (ent_pick (b := 2) hd (by decide)) (fun _ ns => ?_) (fun _ ns => sd_go (tail ns ls g)) ns)
    have hb := KM.blocker_eq g.g.asc g.lt
    exact sd_asgL (ef_call (ea_cons (ep_var (i := 3) (d := iD n) rfl) (ea_cons (ep_var (i := 4) (d := lsD ls) rfl) ea_nil)) ⟨n, ls, by omega, gf_LL g (by omega), g.ne, rfl, rfl⟩) (imAll_tD _) (sd_go (tail ns _ (hb ▸ KM.blocker_gf g)))
  refine sd_seq (sd_if (et_in2 (k1 := 1) (k2 := 4) rfl rfl rfl) (fun _ => ?_) (fun _ => ?_))
  · refine sd_asgN (S := fun ns => [dr p ns, .val (iD x), .no, .no, .no]) (P := Fam) hd1 (en_draw (ok := ok_0) (pre := p_fam) hd1 (fun _ => eac_nil) rfl (fun d h => h) (.inr fun _ => rfl)) (fun d ns hdp => sd_go ?_) ns
    obtain ⟨n, ls, g, hn, rfl⟩ := hdp
    exact rest ns n ls g hn
  · refine sd_asgN (S := fun ns => [dr p ns, .val (iD x), .no, .no, .no]) (P := Fam) hd1 (en_draw (ok := ok_0) (pre := p_fam) hd1 (fun _ => eac_nil) rfl (fun d h => h) (.inr fun _ => rfl)) (fun d ns hdp => sd_go ?_) ns
    obtain ⟨n, ls, g, hn, rfl⟩ := hdp
    exact rest ns n ls g hn
end
end Y
set_option Elab.async false
set_option linter.all false
set_option autoImplicit false
set_option maxRecDepth 100000
set_option maxHeartbeats 4000000
namespace Y
open PySem L2
/-- a new list, one of several -/
def FreshN (K : PySem.W.Frag) (ok : List D → Prop) (pre : List D → List D → Prop) : Sp := fun vs H Q _ => ∃ ds, IsAll K H vs ds ∧ ok ds ∧ ∀ l p ws H', pre ds l → H p = none → Ex H H' → H' p = some (.lst ws) → IsAll K H' ws l → Q (.ref p) H'
section
variable {P : Program} {w : World} {K : PySem.W.Frag} {mg : Str → Option Value} {base : Heap}
theorem freshn_ok {x qual : Str} {st : Stmt} {f : Addr} {fd : FuncData} {N ps : List Str} {k : Nat} {ok : List D → Prop} {pre : List D → List D → Prop} (F : Fun K x qual st f fd) (S : FnScope N ps (defScope st)) (len : ∀ ds, ok ds → ds.length = ps.length) (hN : ps.length ≤ N.length)
    (hb : ∀ (cdv : Value) (A : Around) (outer : List PySem.Env) (s : Shared) (H : Hp) (E : XK), Room k (A.deeper (PyProof.Rows.envOfC qual (defScope st) s.heap.objs.size f cdv)) →
      ∃ t, PSs (cxOf CX0 P w K mg base N qual (defScope st) f cdv A outer s H E).nox (defBody st) t ∧ ∀ ds, ok ds → ∀ D : Ends, (∀ l, pre ds l → OkF K H D l) → SD K [] H (fun _ => True) t D (entry N ds)) :
    FnOk P w K mg base CX0 (k + 1) f fd ps (FreshN K ok pre) := by
  refine F.ok S (fun vs H Q E h => ?_) (fun cdv A outer s H vs Q E hr h => ?_)
  · obtain ⟨ds, h1, h2, _⟩ := h
    rw [h1.length]
    exact len ds h2
  · obtain ⟨t, ht, hs⟩ := hb cdv A outer s H E hr
    refine ⟨t, ht, ?_⟩
    obtain ⟨ds, h1, h2, h3⟩ := h
    refine hs ds h2 _ (fun l hl => ⟨fun p ws H' np e hp i => h3 l p ws H' hl (np (by simp)) (fun a o q => e a o (by simp) q) hp i⟩) _ _ (env_entry h1 ?_)
    have := len ds h2
    omega
variable {B : List Addr} {H0 : Hp} {Z : Hp → Prop} {E : List Slot} {ta tb tc te : TE} {ea : TA} {x y z d : D} {l m : List D} {De : Ends}
theorem sd_asgON {i : Nat} {ex : XK} {ok : List D → Prop} {pre : List D → List D → Prop} (h : EA K B H0 Z ea E l) (hok : ok l) (him : ∀ m, pre l m → imAll m = true) (k : ∀ p m, pre l m → SD K B H0 Z tNext De (E.set i (.own p m))) : SD K B H0 Z (tAsg (tCall (FreshN K ok pre) [] ex ea) (gName i)) De E := fun σ H e =>
  h σ H e _ fun vs H1 e1 h1 => ⟨l, by rw [List.append_nil]; exact h1, hok, fun m p ws H2 hm np e2 hp h2 => k p m hm _ H2 ((e.ext e1).setO e2 np hp h2 (him m hm) fun hb => by
    cases q : H0 p with
    | none => rfl
    | some o =>
      have := (e.ext e1).ex p o hb q
      rw [np] at this
      cases this)⟩
theorem ef_rev (h : EP K B H0 Z te E (.lst l)) : EF K B H0 Z (tRevL K te) E l.reverse := fun σ H e Q q =>
  h σ H e _ fun v H1 e1 h1 => by
    cases h1 with
    | lst hq ht =>
      rename_i a xs
      exact ⟨a, xs, rfl, hq, fun p np => q p _ _ (e1.back np) (e1.trans (Ex.new np)) upd_same (ht.rev.mono (Ex.new np))⟩
theorem rc_min {a b : Int} : RCd K (fun xs H Q => ∃ i j, xs = [.int i, .int j] ∧ Q (.int (if j < i then j else i)) H) [.int a, .int b] (.int (if b < a then b else a)) := fun vs H h Q q => by
  cases h with
  | cons h1 t =>
    cases h1
    cases t with
    | cons h2 t =>
      cases h2
      cases t
      exact ⟨a, b, rfl, q _ H (Ex.refl H) (.int _)⟩
/-! draws -/
abbrev s_law_draws : Stmt := topS 51
abbrev N_law_draws : List Str := ["_law_script", "_law_draws_here", "_law_at", "_law_cell", "_law_turn", "_law_mixed"]
theorem sc_law_draws : FnScope N_law_draws ["_law_script"] (defScope s_law_draws) := ⟨rfl, rfl, rfl, by decide +kernel, rfl, by decide +kernel, by decide +kernel⟩
def ok_draws (ds : List D) : Prop := ∃ ns : List Int, ns.length ≤ 63 ∧ ds = [.lst (ns.map D.int)]
def p_draws (_ : List D) (l : List D) : Prop := ∃ ns : List Int, l = ns.map D.int
theorem ok_law_draws {f : Addr} {fd : FuncData} (F : Fun K "_law_draws" "_law_draws" s_law_draws f fd) (T : Txt mg) : FnOk P w K mg base CX0 1 f fd ["_law_script"] (FreshN K ok_draws p_draws) := by
  refine freshn_ok F sc_law_draws (fun ds h => by obtain ⟨_, _, rfl⟩ := h; rfl) (by decide) fun cdv A outer s H E hr => ?_
  refine ⟨_, (pss_cons (ps_set (i := 1) sc_law_draws.nd rfl (Or.inl rfl) (pe_lst pa_nil))
    (pss_cons (ps_for PassesOwn.never rfl (pi_range1 (by rfl) T.range (pa_cons (pe_callB (call_min2 rfl) (by rfl) T.min (by decide +kernel) (pa_cons (pe_callB (r := rLen K) call_lenY (by rfl) T.len PySem.boot_len (pa_cons (pv 0) pa_nil)) (pa_cons pe_int pa_nil))) pa_nil)) (pg_name (i := 2) sc_law_draws.nd rfl (Or.inl rfl))
    (pss_cons (ps_set (i := 3) sc_law_draws.nd rfl (Or.inl rfl) (pe_callTy call_int1 (by rfl) T.int (by decide +kernel) (pa_cons (pe_ix (r := rIxL K) ix_list (pv 0) (pv 2) (fun _ _ => rfl)) pa_nil)))
    (pss_cons (ps_if (pt_cmpR op_lt (pv 3) pe_int (nomark _)) (pss_one (ps_set (i := 3) sc_law_draws.nd rfl (Or.inl rfl) (pe_op op_sub pe_int (pv 3)))) pss_nil)
    (pss_one (ps_if (pt_cmpR op_ge (pv 3) (pe_op op_pow pe_int pe_int) (nomark _)) (pss_one (ps_for PassesOwn.never rfl (pi_range1 (by rfl) T.range (pa_cons pe_int pa_nil)) (pg_name (i := 4) sc_law_draws.nd rfl (Or.inl rfl))
    (pss_one (ps_if (pt_cmpR op_gt (pv 3) pe_int (nomark _)) (pss_cons (ps_expr (pe_bm PySem.F.plainAttrs_list PySem.F.slot_list_append PySem.F.type_list_append mt_append (pv 1) (pa_cons (pe_op op_mod (pe_callTy call_int1 (by rfl) T.int (by decide +kernel) (pa_cons (pv 3) pa_nil)) pe_int) pa_nil)))
    (pss_one (ps_set (i := 3) sc_law_draws.nd rfl (Or.inl rfl) (pe_op op_fdiv (pv 3) pe_int)))) pss_nil)))) (pss_cons (ps_set (i := 5) sc_law_draws.nd rfl (Or.inl rfl) (pe_op op_mod (pe_callTy call_int1 (by rfl) T.int (by decide +kernel) (pa_cons (pe_op op_add (pe_op op_add (pe_op op_mulW (pv 3) pe_int) (pe_op op_mulW (pv 2) pe_int)) pe_int) pa_nil)) pe_int))
    (pss_one (ps_for PassesOwn.never rfl (pi_range1 (by rfl) T.range (pa_cons pe_int pa_nil)) (pg_name (i := 4) sc_law_draws.nd rfl (Or.inl rfl))
    (pss_cons (ps_set (i := 5) sc_law_draws.nd rfl (Or.inl rfl) (pe_op op_mod (pe_callTy call_int1 (by rfl) T.int (by decide +kernel) (pa_cons (pe_op op_add (pe_op op_add (pe_op op_add (pe_op op_mulW (pv 5) (pv 5)) (pe_op op_mulW (pv 2) pe_int)) (pe_op op_mulW (pv 4) pe_int)) pe_int) pa_nil)) pe_int))
    (pss_one (ps_expr (pe_bm PySem.F.plainAttrs_list PySem.F.slot_list_append PySem.F.type_list_append mt_append (pv 1) (pa_cons (pe_op op_fdiv (pv 5) pe_int) pa_nil)))))))))))))
    (pss_one (ps_ret (pe_revL (pv 1)))))), ?_⟩
  rintro ds ⟨ns, hz, rfl⟩ De o
  refine sd_seq (sd_asgO (ef_lst ea_nil) rfl fun q => sd_go ?_)
  have hmin : (if (63 : Int) < (ns.length : Int) then (63 : Int) else (ns.length : Int)) = (ns.length : Int) := if_neg (by omega)
  refine sd_seq (sd_forRW (n := (ns.length : Int)) (fun i E => ∃ ds : List Int, E = [.val (.lst (ns.map D.int)), .own q (ds.map D.int), .no, .no, .no, .no] ∧ ds.length ≤ 40 * i)
    (ea_cons (ep_is (ep_cb (ea_cons (ep_cb (ea_cons (ep_var (i := 0) (d := .lst (ns.map D.int)) rfl) ea_nil) rc_lenLn) (ea_cons ep_int ea_nil)) rc_min) (by rw [hmin])) ea_nil) (by omega) ⟨[], rfl, by simp⟩ ?_ ?_)
  · rintro i E hi ⟨ds, rfl, hd⟩
    have hi' : i < ns.length := by omega
    have hix : atI (ns.map D.int) (i : Int) = some (.int ns[i]) := by
      unfold atI ixN
      rw [List.length_map, if_pos (by omega), if_pos (by omega)]
      simp [hi']
    refine sd_seq (sd_asg (d := .int ns[i]) (ep_cb (ea_cons (ep_op (ep_var (d := .lst (ns.map D.int)) rfl) (ep_var rfl) (r2_ixL hix)) ea_nil) rc_intI) rfl (sd_go ?_))
    -- from here on: a number at least 0
    have rest : ∀ c : Int, 0 ≤ c → SD K [] H (fun _ => True) (tIfS (tTest (tOp (rI0 fun i j => .bl (decide (j ≤ i))) (tVar 3) (tOp (rI CPow fun i j => .int (i ^ j.toNat)) (tC (.int 10)) (tC (.int 18)))))
        (tFor (iRng1 (tCons (tC (.int 40)) tNil)) (gName 4) (tIfS (tTest (tOp (rI0 fun i j => .bl (decide (j < i))) (tVar 3) (tC (.int 0)))) (tSeq (tDrop (tBM K "list" rAppend (tVar 1) (tCons (tOp (rI (fun _ j => 0 < j) fun i j => .int (i % j)) (tCB (fun xs H Q => (∃ i, xs = [.int i] ∧ Q (.int i) H) ∨ ∃ k, xs = [.bl k] ∧ Q (.int (if k then 1 else 0)) H) (tCons (tVar 3) tNil)) (tC (.int 24))) tNil))) (tAsg (tOp (rI CDiv fun i j => .int (i / j)) (tVar 3) (tC (.int 24))) (gName 3))) tNext))
        (tSeq (tAsg (tOp (rI (fun _ j => 0 < j) fun i j => .int (i % j)) (tCB (fun xs H Q => (∃ i, xs = [.int i] ∧ Q (.int i) H) ∨ ∃ k, xs = [.bl k] ∧ Q (.int (if k then 1 else 0)) H) (tCons (tOp (rI0 fun i j => .int (i + j)) (tOp (rI0 fun i j => .int (i + j)) (tOp (rI CMulW fun i j => .int (i * j)) (tVar 3) (tC (.int 48271))) (tOp (rI CMulW fun i j => .int (i * j)) (tVar 2) (tC (.int 977)))) (tC (.int 3))) tNil)) (tC (.int 2147483647))) (gName 5))
        (tFor (iRng1 (tCons (tC (.int 5)) tNil)) (gName 4) (tSeq (tAsg (tOp (rI (fun _ j => 0 < j) fun i j => .int (i % j)) (tCB (fun xs H Q => (∃ i, xs = [.int i] ∧ Q (.int i) H) ∨ ∃ k, xs = [.bl k] ∧ Q (.int (if k then 1 else 0)) H) (tCons (tOp (rI0 fun i j => .int (i + j)) (tOp (rI0 fun i j => .int (i + j)) (tOp (rI0 fun i j => .int (i + j)) (tOp (rI CMulW fun i j => .int (i * j)) (tVar 5) (tVar 5)) (tOp (rI CMulW fun i j => .int (i * j)) (tVar 2) (tC (.int 613)))) (tOp (rI CMulW fun i j => .int (i * j)) (tVar 4) (tC (.int 89)))) (tC (.int 17))) tNil)) (tC (.int 2147483629))) (gName 5))
          (tDrop (tBM K "list" rAppend (tVar 1) (tCons (tOp (rI CDiv fun i j => .int (i / j)) (tVar 5) (tC (.int 16))) tNil)))))))
        (LW K [] H (fun _ => True) { nx := fun σ H => (tRet (tRevL K (tVar 1))) De σ H, rt := De.rt, bk := De.bk, ct := De.ct } (fun E => ∃ ds : List Int, E = [.val (.lst (ns.map D.int)), .own q (ds.map D.int), .no, .no, .no, .no] ∧ ds.length ≤ 40 * (i + 1)))
        [.val (.lst (ns.map D.int)), .own q (ds.map D.int), .val (.int i), .val (.int c), .no, .no] := fun c hc => by
      have hpow : (10 : Int) ^ ((18 : Int)).toNat = 1000000000000000000 := by decide
      refine sd_if (et_test (ep_op (ep_var rfl) (ep_op ep_int ep_int (r2_intC (C := CPow) (g := fun i j => i ^ j.toNat) ⟨by decide, by decide, by decide +kernel⟩)) (r2_cmp (g := fun i j => decide (j ≤ i))))) (fun h => ?_) (fun h => ?_)
      · refine sd_forRW (n := 40) (fun j E => ∃ (ds : List Int) (c : Int), E = [.val (.lst (ns.map D.int)), .own q (ds.map D.int), .val (.int i), .val (.int c), .no, .no] ∧ ds.length ≤ 40 * i + j) (ea_cons ep_int ea_nil) (by decide) ⟨ds, c, rfl, by omega⟩ ?_ ?_
        · rintro j E hj ⟨ds, c, rfl, hd⟩
          refine sd_if (et_test (ep_op (ep_var (i := 3) rfl) ep_int (r2_cmp (g := fun i j => decide (j < i))))) (fun h => ?_) (fun h => ?_)
          · refine sd_seq (sd_app (p := q) (i := 1) (l := ds.map D.int) rfl (ep_op (ep_cb (ea_cons (ep_var rfl) ea_nil) rc_intI) ep_int (r2_intC (C := fun _ j => 0 < j) (g := fun i j => i % j) (by decide))) rfl (by rw [List.length_map]; omega) (sd_go ?_))
            refine sd_asg (d := .int (c / 24)) (ep_op (ep_var rfl) ep_int (r2_intC (C := CDiv) (g := fun i j => i / j) ⟨by decide, by decide⟩)) rfl ?_
            refine sd_lw (E' := [.val (.lst (ns.map D.int)), .own q ((ds ++ [c % 24]).map D.int), .val (.int i), .val (.int (c / 24)), .no, .no]) ⟨_, _, rfl, by simp; omega⟩ ?_
            rw [List.map_append]
            exact .eq (.eq (.eq (.eq (.no (.eq .nil)))))
          · exact sd_lw (E' := [.val (.lst (ns.map D.int)), .own q (ds.map D.int), .val (.int i), .val (.int c), .no, .no]) ⟨_, _, rfl, by omega⟩ (.eq (.eq (.eq (.eq (.no (.eq .nil))))))
        · rintro E ⟨ds, c, rfl, hd⟩
          exact sd_lw (E' := [.val (.lst (ns.map D.int)), .own q (ds.map D.int), .no, .no, .no, .no]) ⟨ds, rfl, by have : ((40 : Int)).toNat = 40 := rfl; omega⟩ (.eq (.eq (.no (.no (.eq (.eq .nil))))))
      · have hc2 : c < 1000000000000000000 := by
          rw [hpow] at h
          have := of_decide_eq_false h
          omega
        have sm : ∀ {a b : Int} {x y : Nat}, a.natAbs < 2 ^ x → b.natAbs < 2 ^ y → 0 < x → 0 < y → x + y ≤ 1000000 → CMulW a b := fun {a b x y} h1 h2 h3 h4 h5 => wide_mul h1 h2 h3 h4 h5
        have hcb : c.natAbs < 2 ^ 64 := by omega
        have hib : ((i : Nat) : Int).natAbs < 2 ^ 16 := by omega
        refine sd_seq (sd_asg (d := .int ((c * 48271 + i * 977 + 3) % 2147483647)) (ep_op (ep_cb (ea_cons (ep_op (ep_op (ep_op (ep_var rfl) ep_int (r2_intC (C := CMulW) (g := fun i j => i * j) (sm (y := 16) hcb (by decide) (by decide) (by decide) (by decide)))) (ep_op (ep_var rfl) ep_int (r2_intC (C := CMulW) (g := fun i j => i * j) (sm (y := 16) hib (by decide) (by decide) (by decide) (by decide)))) r2_int) ep_int r2_int) ea_nil) rc_intI) ep_int (r2_intC (C := fun _ j => 0 < j) (g := fun i j => i % j) (by decide))) rfl (sd_go ?_))
        refine sd_forRW (n := 5) (fun j E => ∃ (ds : List Int) (m : Int), 0 ≤ m ∧ m < 2147483647 ∧ E = [.val (.lst (ns.map D.int)), .own q (ds.map D.int), .val (.int i), .val (.int c), .no, .val (.int m)] ∧ ds.length ≤ 40 * i + j) (ea_cons ep_int ea_nil) (by decide) ⟨ds, _, Int.emod_nonneg _ (by decide), Int.emod_lt_of_pos _ (by decide), rfl, by omega⟩ ?_ ?_
        · rintro j E hj ⟨ds, m, m0, m1, rfl, hd⟩
          have hmb : m.natAbs < 2 ^ 32 := by omega
          have hjb : ((j : Nat) : Int).natAbs < 2 ^ 16 := by omega
          refine sd_seq (sd_asg (d := .int ((m * m + i * 613 + j * 89 + 17) % 2147483629)) (ep_op (ep_cb (ea_cons (ep_op (ep_op (ep_op (ep_op (ep_var rfl) (ep_var rfl) (r2_intC (C := CMulW) (g := fun i j => i * j) (sm (x := 32) (y := 32) hmb hmb (by decide) (by decide) (by decide)))) (ep_op (ep_var rfl) ep_int (r2_intC (C := CMulW) (g := fun i j => i * j) (sm (y := 16) hib (by decide) (by decide) (by decide) (by decide)))) r2_int)
            (ep_op (ep_var rfl) ep_int (r2_intC (C := CMulW) (g := fun i j => i * j) (sm (y := 16) hjb (by decide) (by decide) (by decide) (by decide)))) r2_int) ep_int r2_int) ea_nil) rc_intI) ep_int (r2_intC (C := fun _ j => 0 < j) (g := fun i j => i % j) (by decide))) rfl (sd_go ?_))
          have b0 : 0 ≤ (m * m + i * 613 + j * 89 + 17) % 2147483629 := Int.emod_nonneg _ (by decide)
          have b1 : (m * m + i * 613 + j * 89 + 17) % 2147483629 < 2147483629 := Int.emod_lt_of_pos _ (by decide)
          generalize (m * m + i * 613 + j * 89 + 17) % 2147483629 = m' at b0 b1
          refine sd_app (p := q) (i := 1) (l := ds.map D.int) (d := .int (m' / 16)) rfl (ep_op (ep_var rfl) ep_int (r2_intC (C := CDiv) (g := fun i j => i / j) ⟨by decide, by decide⟩)) rfl (by rw [List.length_map]; omega) ?_
          refine sd_lw (E' := [.val (.lst (ns.map D.int)), .own q ((ds ++ [m' / 16]).map D.int), .val (.int i), .val (.int c), .no, .val (.int m')]) ⟨_, m', b0, by omega, rfl, by simp; omega⟩ ?_
          rw [List.map_append]
          exact .eq (.eq (.eq (.eq (.no (.eq .nil)))))
        · rintro E ⟨ds, m, _, _, rfl, hd⟩
          exact sd_lw (E' := [.val (.lst (ns.map D.int)), .own q (ds.map D.int), .no, .no, .no, .no]) ⟨ds, rfl, by have : ((5 : Int)).toNat = 5 := rfl; omega⟩ (.eq (.eq (.no (.no (.eq (.no .nil))))))
    refine sd_seq (sd_if (et_test (ep_op (ep_var (i := 3) rfl) ep_int (r2_cmp (g := fun i j => decide (i < j))))) (fun h => ?_) (fun h => sd_go (rest _ ?_)))
    · have := of_decide_eq_true h
      exact sd_asg (d := .int (7 - ns[i])) (ep_op ep_int (ep_var rfl) r2_int) rfl (sd_go (rest _ (by omega)))
    · have := of_decide_eq_false h
      omega
  · rintro E ⟨ds, rfl, hd⟩
    exact sd_go (sd_retF (ef_rev (ep_own rfl)) (o _ ⟨ds.reverse, by rw [List.map_reverse]⟩).rt)
end
end Y
set_option autoImplicit false
set_option linter.all false
/-! Families put in: defs. -/
namespace KM
def putS (sh : List (List T)) (rows : List T) (e : Nat) : List T := rows.flatMap fun row => (sh.getD e []).map fun more => row ++ more
def putR (sh : List (List T)) (lot : T) : List T := lot.foldl (putS sh) [[]]
def putL (lots : List T) (sh : List (List T)) : List T := lots.flatMap (putR sh)
def up (s : Nat) (L : List T) : List T := L.map fun l => l.map fun f => f + s
def startsS (a : List Nat × Nat) (n : Nat) : List Nat × Nat := (a.1 ++ [a.2], a.2 + n)
/-- where each begins, and the end -/
def starts (ns : List Nat) : List Nat := (ns.foldl startsS ([], 0)).1
theorem starts_acc : ∀ (ns : List Nat) (a : List Nat) (s : Nat), (ns.foldl startsS (a, s)) = (a ++ (ns.foldl startsS ([], s)).1, s + ns.sum)
  | [], a, s => by simp
  | n :: ns, a, s => by
    rw [List.foldl_cons, List.foldl_cons]
    show List.foldl startsS (a ++ [s], s + n) ns = (a ++ (List.foldl startsS ([] ++ [s], s + n) ns).1, s + (n :: ns).sum)
    rw [starts_acc ns (a ++ [s]) (s + n), starts_acc ns ([] ++ [s]) (s + n)]
    simp [Nat.add_assoc]
theorem starts_len (ns : List Nat) : (starts ns).length = ns.length := by
  have : ∀ (ns : List Nat) (a : List Nat × Nat), (ns.foldl startsS a).1.length = a.1.length + ns.length := by
    intro ns
    induction ns with
    | nil => intro a; simp
    | cons n ns ih =>
      intro a
      rw [List.foldl_cons, ih]
      simp [startsS]
      omega
  simpa [starts] using this ns ([], 0)
def shares (rows : List (Nat × List T)) : List (List T) := (List.range rows.length).map fun e => up ((starts (rows.map (·.1))).getD e 0) ((rows.getD e (0, [])).2)
end KM
set_option Elab.async false
set_option linter.all false
set_option autoImplicit false
set_option maxRecDepth 100000
set_option maxHeartbeats 4000000
namespace Y
open PySem L2
section
variable {K : PySem.W.Frag} {B : List Addr} {H0 : Hp} {Z : Hp → Prop} {E : List Slot} {te : TE} {l m : List D} {De : Ends}
/-- xs.extend(ys), own lists -/
theorem sd_ext {i j : Nat} {p q : Addr} (hi : E[i]? = some (.own p l)) (hj : E[j]? = some (.own q m)) (hz : l.length + m.length < 100000) (k : SD K B H0 Z tNext De (E.set i (.own p (l ++ m)))) :
    SD K B H0 Z (tDrop (tBM K "list" rExtend (tVar i) (tCons (tVar j) tNil))) De E := fun σ H e => by
  obtain ⟨h1, vs, h2, h3⟩ := e.own i p l hi
  obtain ⟨g1, us, g2, g3⟩ := e.own j q m hj
  refine ⟨_, h1, .inl ⟨rfl, vs, SqL.of h2⟩, _, g1, p, q, vs, us, rfl, rfl, h2, g2, ?_, k σ _ (e.chg hi (h3.append g3))⟩
  rw [h3.length, g3.length, sizeLine_eq]
  omega
theorem pi_listY {X : Cx} {K : PySem.W.Frag} {tg e : Expr} {tl : TE} (hK : X.K = K) (hl : PE X e tl) : PI X tg e (iList K tl) := hK ▸ pi_list hl
theorem pi_tupY {X : Cx} {K : PySem.W.Frag} {tg e : Expr} {tl : TE} (hK : X.K = K) (hl : PE X e tl) : PI X tg e (iTup K tl) := hK ▸ pi_tup hl
theorem pe_fldY {X : Cx} {K : PySem.W.Frag} {o : Expr} {f : Str} {pos : Pos} {ta : TE} (he : PE X o ta) (hb : attributeBase o f X.env (eval o X.env) = eval o X.env) (hK : X.K = K) : PE X (.Attribute o f pos) (tFld K ta f) := hK ▸ pe_fld he hb
theorem atI_nat {i : Nat} {d : D} (h : l[i]? = some d) : atI l (i : Int) = some d := by
  have hi := (List.getElem?_eq_some_iff.mp h).1
  unfold atI ixN
  rw [if_pos (by omega), if_pos (by omega)]
  have : ((i : Int)).toNat = i := by omega
  rw [this]
  exact h
end
section
variable {P : Program} {w : World} {K : PySem.W.Frag} {mg : Str → Option Value} {base : Heap}
/-! lots_put -/
abbrev s_lots_put : Stmt := topS 29
abbrev N_lots_put : List Str := ["lots", "shares", "made", "lot", "rows", "e", "row", "more"]
theorem sc_lots_put : FnScope N_lots_put ["lots", "shares"] (defScope s_lots_put) := ⟨rfl, rfl, rfl, by decide +kernel, rfl, by decide +kernel, by decide +kernel⟩
structure PutOk (lots : List (List Nat)) (sh : List (List (List Nat))) : Prop where
  e : ∀ l ∈ lots, ∀ e ∈ l, e < sh.length
  rl : ∀ l ∈ lots, ∀ i, (KM.putR sh (l.take i)).length < 1000 ∧ ∀ r ∈ KM.putR sh (l.take i), r.length < 1000
  ml : ∀ s ∈ sh, ∀ m ∈ s, m.length < 1000
  tl : (KM.putL lots sh).length < 1000
  ne : (KM.putL lots sh).length ≤ 1 ∨ ∀ t ∈ KM.putL lots sh, t ≠ []
def p_put (ds : List D) (d : D) : Prop := ∃ (lots : List (List Nat)) (sh : List (List (List Nat))), PutOk lots sh ∧ ds = [tsD lots, .lst (sh.map lsD)] ∧ d = tsD (KM.srt (KM.putL lots sh))
theorem fm_tD {α : Type} (ts : List α) (f : α → List (List Nat)) : (ts.flatMap f).map tD = ts.flatMap fun a => (f a).map tD := by
  rw [List.map_flatMap]
theorem ok_lots_put {f : Addr} {fd : FuncData} (F : Fun K "lots_put" "lots_put" s_lots_put f fd) (T : Txt mg) : FnOk P w K mg base CX0 1 f fd ["lots", "shares"] (Pure K p_put) := by
  refine pure_ok F sc_lots_put (fun ds d h => by obtain ⟨_, _, _, rfl, _⟩ := h; rfl) (by decide) fun cdv A outer s H E hr => ?_
  have hu := hr.units
  refine ⟨_, (pss_cons (ps_set (i := 2) sc_lots_put.nd rfl (Or.inl rfl) (pe_lst pa_nil))
    (pss_cons (ps_for PassesOwn.never rfl (pi_tup (pv 0)) (pg_name (i := 3) sc_lots_put.nd rfl (Or.inl rfl))
    (pss_cons (ps_set (i := 4) sc_lots_put.nd rfl (Or.inl rfl) (pe_lst (pa_cons (pe_tup pa_nil) pa_nil)))
    (pss_cons (ps_for PassesOwn.never rfl (pi_tup (pv 3)) (pg_name (i := 5) sc_lots_put.nd rfl (Or.inr rfl))
    (pss_one (ps_setLc2 (i := 4) (own := [("row", 6), ("more", 7)]) (vs1 := [7]) (g := gName 6) (g1 := gName 7) rfl sc_lots_put.nd rfl rfl (sw_true rfl rfl rfl (by decide +kernel)) (pi_list (pv 4)) (blkOk_by (N := N_lots_put) (sc := defScope s_lots_put) (by decide +kernel)) (by decide) (fun _ _ _ _ _ => pg_name (i := 6) sc_lots_put.nd rfl (Or.inl rfl)) (fun _ _ _ _ _ => pts_nil)
      (fun _ _ _ _ _ => pi_listY rfl (pe_ix (r := rIxL K) ix_list (pv 1) (pv 5) (fun _ _ => rfl))) (fun _ _ _ _ _ => pg_name (i := 7) sc_lots_put.nd rfl (Or.inl rfl)) (fun _ _ _ _ _ => pts_nil) (fun _ _ _ _ _ => (pe_op (r := rCatA K) op_catA (pv 6) (pv 7))))))
    (pss_one (ps_expr (pe_bm PySem.F.plainAttrs_list PySem.F.slot_list_extend PySem.F.type_list_extend mt_extend (pv 2) (pa_cons (pv 4) pa_nil)))))))
    (pss_one (ps_ret (pe_callTy (r := rTupOf K) call_tupY (by rfl) T.tuple (by decide +kernel) (pa_cons (pe_callB (r := rSortY K) (cr_sortY hu) (by rfl) T.sorted (by decide +kernel) (pa_cons (pv 2) pa_nil)) pa_nil)))))), ?_⟩
  rintro ds d ⟨ls, sh, hp, rfl, rfl⟩ De o
  refine sd_seq (sd_asgO (ef_lst ea_nil) rfl fun p => sd_go ?_)
  refine sd_seq (sd_forTW (c := tD) (ts := ls) (fun i E => E = [.val (tsD ls), .val (.lst (sh.map lsD)), .own p ((KM.putL (ls.take i) sh).map tD), .no, .no, .no, .no, .no]) (ec_var rfl) rfl ?_ ?_)
  · rintro Z' i l E hl rfl
    have hlm : l ∈ ls := List.mem_of_getElem? hl
    refine sd_seq (sd_asgO (ef_lst (ea_cons (ep_tup ea_nil) ea_nil)) rfl fun q0 => sd_go ?_)
    refine sd_seq (sd_forTW (c := iD) (ts := l) (fun j E => ∃ q, E = [.val (tsD ls), .val (.lst (sh.map lsD)), .own p ((KM.putL (ls.take i) sh).map tD), .val (tD l), .own q ((KM.putR sh (l.take j)).map tD), .no, .no, .no]) (ec_im (ep_is (ep_var (i := 3) (d := tD l) rfl) (tD_eq l)) (by rw [← tD_eq]; exact tD_im l)) ⟨q0, rfl⟩ ?_ ?_)
    · rintro Z2 j e E he ⟨q, rfl⟩
      have hem : e ∈ l := List.mem_of_getElem? he
      have hes := hp.e l hlm e hem
      have hst : KM.putR sh (l.take (j + 1)) = KM.putS sh (KM.putR sh (l.take j)) e := by
        unfold KM.putR
        rw [take_step he, List.foldl_append]
        rfl
      have hr1 := hp.rl l hlm j
      have hr2 := hp.rl l hlm (j + 1)
      have hg : sh.getD e [] = sh[e] := by simp [List.getD, List.getElem?_eq_getElem hes]
      have hsm := hp.ml sh[e] (List.getElem_mem hes)
      rw [hst] at hr2
      have eq0 : ((KM.putR sh (l.take j)).flatMap fun a => (sh[e]).map fun more => tD (a ++ more)) = ((KM.putR sh (l.take j)).flatMap fun row => (sh[e]).map fun more => row ++ more).map tD := by
        rw [fm_tD]
        congr 1
        funext a
        rw [List.map_map]
        rfl
      refine sd_asgO (l := (KM.putS sh (KM.putR sh (l.take j)) e).map tD) (ef_is (ef_lc2LL (j := 6) (j1 := 7) (by decide) tD (ts := KM.putR sh (l.take j)) tD (fun _ => sh[e]) (fun row more => tD (row ++ more)) (ep_own (i := 4) rfl) (fun _ _ => tD_im _) (fun _ _ _ _ => tD_im _) (fun _ _ _ _ => tD_im _) ?_ (fun a ha => ?_) (fun a ha b hb => ?_)) ?_) (imAll_tD _) fun q' => sd_lw ⟨q', rfl⟩ ?_
      · have := hr2.1
        unfold KM.putS at this
        rw [hg] at this
        rw [eq0, List.length_map]
        exact Nat.lt_of_lt_of_le this (by decide)
      · refine erd_ix (k := (e : Int)) (erd_var (i := 1) rfl) (erd_var (i := 5) rfl) (atI_nat ?_)
        rw [List.getElem?_map, List.getElem?_eq_getElem hes]
        rfl
      · refine ep_is (ep_op (ep_is (ep_var (i := 6) (d := tD a) rfl) (tD_eq a)) (ep_is (ep_var (i := 7) (d := tD b) rfl) (tD_eq b)) (r2_catA (by rw [List.length_map, List.length_map]; have := hr1.2 a ha; have := hsm b hb; omega))) (by rw [tD_eq, List.map_append])
      · unfold KM.putS
        rw [hg, eq0]
      · show LeE [_, _, _, _, _, _, _, _] [_, _, _, _, _, _, _, _]
        rw [hst]
        exact .eq (.eq (.eq (.eq (.eq (.no (.eq (.eq .nil)))))))
    · rintro E ⟨q, rfl⟩
      rw [List.take_length]
      refine sd_go (sd_ext (i := 2) (j := 4) rfl rfl ?_ (sd_lw rfl ?_))
      · have h1 : (KM.putL (ls.take (i + 1)) sh).length ≤ (KM.putL ls sh).length := by
          have := fl_le (l := ls) (i := i + 1) fun l => (KM.putR sh l).map tD
          unfold KM.putL
          rw [List.length_flatMap, List.length_flatMap] at this ⊢
          simpa using this
        have h2 : KM.putL (ls.take (i + 1)) sh = KM.putL (ls.take i) sh ++ KM.putR sh l := by
          unfold KM.putL
          rw [take_step hl, List.flatMap_append]
          simp
        rw [h2, List.length_append] at h1
        rw [List.length_map, List.length_map]
        have := hp.tl
        omega
      · have h2 : KM.putL (ls.take (i + 1)) sh = KM.putL (ls.take i) sh ++ KM.putR sh l := by
          unfold KM.putL
          rw [take_step hl, List.flatMap_append]
          simp
        rw [h2, List.map_append]
        exact .eq (.eq (.eq (.no (.no (.eq (.eq (.eq .nil)))))))
  · rintro E rfl
    rw [List.take_length]
    exact sd_go (sd_ret (ep_cb (ea_cons (EF.p (ef_cb (ea_cons (ep_own (i := 2) rfl) ea_nil) (rf_sortY hp.ne))) ea_nil) rc_tupleL) o.rt)
end
end Y
set_option Elab.async false
set_option linter.all false
set_option autoImplicit false
set_option maxRecDepth 100000
set_option maxHeartbeats 4000000
namespace Y
open PySem L2
/-- an own exception class with a number | a text -/
structure XcK (P : Program) (K : PySem.W.Frag) (mg : Str → Option Value) (nm txt : Str) (C f : Addr) : Prop where
  c : ExcK K P C f txt
  m : mg nm = some (.ref C)
  s : mg "super" = none
structure XcS (P : Program) (K : PySem.W.Frag) (mg : Str → Option Value) (nm txt : Str) (C f : Addr) : Prop where
  c : ExcS K P C f txt
  m : mg nm = some (.ref C)
  s : mg "super" = none
section
variable {K : PySem.W.Frag} {B : List Addr} {H0 : Hp} {Z : Hp → Prop} {E : List Slot} {te : TE} {d : D} {l m : List D} {De : Ends}
/-- xs.append(e), e apart -/
theorem sd_appC {i : Nat} {p : Addr} (hi : E[i]? = some (.own p l)) (h : EC K B H0 Z te E d) (hz : l.length < 100000) (k : SD K B H0 Z tNext De (E.set i (.own p (l ++ [d])))) :
    SD K B H0 Z (tDrop (tBM K "list" rAppend (tVar i) (tCons te tNil))) De E := fun σ H e => by
  obtain ⟨h1, vs, h2, h3⟩ := e.own i p l hi
  refine ⟨_, h1, .inl ⟨rfl, vs, SqL.of h2⟩, h σ H e _ fun v H1 e1 q => ?_⟩
  have e' := e.ext e1
  obtain ⟨_, ws, g2, g3⟩ := e'.own i p l hi
  refine ⟨p, ws, v, rfl, rfl, g2, ?_, k σ _ (e'.chg hi (g3.append (.one q)))⟩
  rw [g3.length, sizeLine_eq]
  omega
end
def xP (n : Int) : XF := ("place", .int n)
def xW (s : Str) : XF := ("word", .str s)
abbrev Rws := List (Nat × List (List Nat))
def fms (C : Addr) (rows : Rws) : List D := rows.map fun r => famD C r.1 r.2
theorem fms_len (C : Addr) (rows : Rws) : (fms C rows).length = rows.length := List.length_map ..
theorem famD_im (C : Addr) (n : Nat) (L : List (List Nat)) : (famD C n L).im = true := by
  show imAll [iD n, tsD L] = true
  show (true && ((tsD L).im && true)) = true
  rw [show (tsD L).im = true from imAll_tD L]
  rfl
theorem fms_im (C : Addr) (rows : Rws) : imAll (fms C rows) = true := imAll_map (fun _ => famD_im _ _ _) rows
section
variable {P : Program} {w : World} {K : PySem.W.Frag} {mg : Str → Option Value} {base : Heap}
/-! family_list -/
abbrev s_family_list : Stmt := topS 36
abbrev N_family_list : List Str := ["families", "place"]
theorem sc_family_list : FnScope N_family_list ["families"] (defScope s_family_list) := ⟨rfl, rfl, rfl, by decide +kernel, rfl, by decide +kernel, by decide +kernel⟩
def p_flist (C : Addr) (ds : List D) (d : D) : Prop := ∃ (rows : Rws) (s : D), rows.length < 1000 ∧ Seq s (fms C rows) ∧ ds = [s] ∧ d = .tup (fms C rows)
def q_flist (C CF : Addr) (ds : List D) (C' : Addr) (x : XF) : Prop := C' = CF ∧ ((∃ (e : D) (ty : String), e.tyN = some ty ∧ (ty == "list" || ty == "tuple") = false ∧ ds = [e] ∧ x = xP (-1)) ∨
  ∃ (rows : Rws) (e : D) (ty : String) (r : List D) (s : D), rows.length < 1000 ∧ r.length < 1000 ∧ e.tyN = some ty ∧ Seq s (fms C rows ++ e :: r) ∧ ds = [s] ∧ x = xP (rows.length : Int))
theorem Seq.tup {K : PySem.W.Frag} {s : D} {l : List D} (h : Seq s l) : RCd K (rTupOf K) [s] (.tup l) := by
  rcases h with rfl | rfl
  · exact rc_tupleT
  · exact rc_tupleL
theorem ok_family_list {f C CF fF : Addr} {fd : FuncData} (F : Fun K "family_list" "family_list" s_family_list f fd) (T : Txt mg) (fc : FamC K mg C) (ni : NotI K C) (xF : XcK P K mg "BadFamily" "bad family: place " CF fF) :
    FnOk P w K mg base (L2.CX P w) 2 f fd ["families"] (PureE K (p_flist C) (q_flist C CF)) := by
  refine pureE_ok F sc_family_list (fun ds h => by
    rcases h with ⟨d, _, _, _, _, rfl, _⟩ | ⟨_, _, _, ⟨_, _, _, _, rfl, _⟩ | ⟨_, _, _, _, _, _, _, _, _, rfl, _⟩⟩ <;> rfl) (by decide) fun cdv A outer s H E hr => ?_
  have tk : L2.Takes (cxOf (L2.CX P w) P w K mg base N_family_list "family_list" (defScope s_family_list) f cdv A outer s H E) (fun cls d _ H => E cls d H) := takes_of rfl rfl rfl rfl
  have po : PassesOwn (model P w) (cxOf (L2.CX P w) P w K mg base N_family_list "family_list" (defScope s_family_list) f cdv A outer s H E).A (cxOf (L2.CX P w) P w K mg base N_family_list "family_list" (defScope s_family_list) f cdv A outer s H E).env (cxOf (L2.CX P w) P w K mg base N_family_list "family_list" (defScope s_family_list) f cdv A outer s H E).xe := passes_of rfl
  refine ⟨_, (pss_cons (ps_if (pt_not (pt_val (pe_callB (r := rIsiT K) call_isiT (by rfl) T.isinstance (by decide +kernel) (pa_cons (pv 0) (pa_cons (pe_tup (pa_cons (pe_bltn (v := .ty "list") (by rfl) T.list (by decide +kernel) rfl) (pa_cons (pe_bltn (v := .ty "tuple") (by rfl) T.tuple (by decide +kernel) rfl) pa_nil))) pa_nil)))))
      (pss_one (ps_raise (by rfl) tk (pmk_exc (k := 0) xF.c (by decide) (hr.mono (by decide)) (by rfl) xF.m xF.s (pa_cons (pe_un un_neg pe_int) pa_nil)))) pss_nil)
    (pss_cons (ps_for po rfl (pi_range1 (by rfl) T.range (pa_cons (pe_callB (r := rLen K) call_lenY (by rfl) T.len PySem.boot_len (pa_cons (pv 0) pa_nil)) pa_nil)) (pg_name (i := 1) sc_family_list.nd rfl (Or.inl rfl))
    (pss_one (ps_if (pt_not (pt_val (pe_callB (r := rIsi K) call_isi (by rfl) T.isinstance (by decide +kernel) (pa_cons (pe_ix (r := rIx K) ix_seq (pv 0) (pv 1) (fun _ _ => rfl)) (pa_cons (pe_glob (v := .ref C) (by rfl) fc.m rfl) pa_nil)))))
      (pss_one (ps_raise (by rfl) tk (pmk_exc (k := 0) xF.c (by decide) (hr.mono (by decide)) (by rfl) xF.m xF.s (pa_cons (pv 1) pa_nil)))) pss_nil)))
    (pss_one (ps_ret (pe_callTy (r := rTupOf K) call_tupY (by rfl) T.tuple (by decide +kernel) (pa_cons (pv 0) pa_nil)))))), ?_, ?_⟩
  · rintro ds d ⟨rows, sq, hz, hs, rfl, rfl⟩ De o
    obtain ⟨ty, ht, hty⟩ := hs.ty
    obtain ⟨_, _, k1, k2⟩ := kit_int (tyN_mem ht)
    refine sd_seq (sd_if (et_not (et_B (ep_isiT (ep_var rfl) ht k1 k2))) (fun h => ?_) (fun h => sd_go ?_))
    · rw [hty] at h
      cases h
    refine sd_seq (sd_forRP (n := (rows.length : Int)) (fun _ => True) (ea_cons (ep_is (ep_cb (ea_cons (ep_var rfl) ea_nil) hs.len) (by rw [fms_len])) ea_nil) (by omega) (fun i => [.val sq, .no]) rfl trivial (fun i hi _ => ?_) (fun _ => sd_go ?_))
    · have hi' : i < rows.length := by omega
      have e1 : (fms C rows)[i]? = some (famD C rows[i].1 rows[i].2) := by unfold fms; rw [List.getElem?_map, List.getElem?_eq_getElem hi']; rfl
      refine sd_if (et_not (et_B (ep_isiO (ep_op (ep_var rfl) (ep_var (d := iD i) rfl) (hs.ix e1)) fc.ob))) (fun h => by cases h) (fun h => sd_lp trivial (.eq (.no .nil)))
    · exact sd_ret (ep_cb (ea_cons (ep_var rfl) ea_nil) hs.tup) o.rt
  · rintro ds C' x ⟨rfl, hq⟩ De o
    rcases hq with ⟨e, ty, he, hty, rfl, rfl⟩ | ⟨rows, e, ty, r, sq, hz, hz2, he, hs, rfl, rfl⟩
    · obtain ⟨_, _, k1, k2⟩ := kit_int (tyN_mem he)
      refine sd_seq (sd_if (et_not (et_B (ep_isiT (ep_var rfl) he k1 k2))) (fun h => ?_) (fun h => ?_))
      · exact sd_raiseF (ea_cons (ep_un (x := .int 1) ep_int r1_neg) ea_nil) (by decide) (wf_of o)
      · rw [hty] at h
        cases h
    · obtain ⟨ty2, ht, hty⟩ := hs.ty
      obtain ⟨_, _, k1, k2⟩ := kit_int (tyN_mem ht)
      refine sd_seq (sd_if (et_not (et_B (ep_isiT (ep_var rfl) ht k1 k2))) (fun h => ?_) (fun h => sd_go ?_))
      · rw [hty] at h
        cases h
      have hlen : ((fms C rows ++ e :: r).length : Int) = ((rows.length + r.length + 1 : Nat) : Int) := by rw [List.length_append, fms_len, List.length_cons]; omega
      refine sd_seq (sd_forRP (n := ((rows.length + r.length + 1 : Nat) : Int)) (fun i => i ≤ rows.length) (ea_cons (ep_is (ep_cb (ea_cons (ep_var rfl) ea_nil) hs.len) (by rw [hlen])) ea_nil) (by omega) (fun i => [.val sq, .no]) rfl (Nat.zero_le _) (fun i hi hp => ?_) (fun hp => by omega))
      by_cases hi' : i < rows.length
      · have e1 : (fms C rows ++ e :: r)[i]? = some (famD C rows[i].1 rows[i].2) := by
          rw [List.getElem?_append_left (by rw [fms_len]; exact hi')]
          unfold fms
          rw [List.getElem?_map, List.getElem?_eq_getElem hi']
          rfl
        exact sd_if (et_not (et_B (ep_isiO (ep_op (ep_var rfl) (ep_var (d := iD i) rfl) (hs.ix e1)) fc.ob))) (fun h => by cases h) (fun h => sd_lp hi' (.eq (.no .nil)))
      · have hie : i = rows.length := by omega
        subst hie
        have e1 : (fms C rows ++ e :: r)[rows.length]? = some e := by
          rw [List.getElem?_append_right (by rw [fms_len]; exact Nat.le_refl _), fms_len, Nat.sub_self]
          rfl
        exact sd_if (et_not (et_B (ep_isiN ni (ep_op (ep_var rfl) (ep_var (d := iD rows.length) rfl) (hs.ix e1)) he (tyN_mem he)))) (fun h => sd_raiseF (ea_cons (ep_var rfl) ea_nil) (by omega) (wf_of o)) (fun h => by cases h)
/-! families_for -/
abbrev s_families_for : Stmt := topS 37
abbrev N_families_for : List Str := ["family", "families", "found"]
theorem sc_families_for : FnScope N_families_for ["family", "families"] (defScope s_families_for) := ⟨rfl, rfl, rfl, by decide +kernel, rfl, by decide +kernel, by decide +kernel⟩
def p_ffor (C : Addr) (ds : List D) (d : D) : Prop := ∃ (n : Nat) (L : List (List Nat)) (rows : Rws) (s : D), n < 1000 ∧ rows.length = n ∧ Seq s (fms C rows) ∧ ds = [famD C n L, s] ∧ d = .tup (fms C rows)
theorem ok_families_for {f C CF : Addr} {fd : FuncData} (F : Fun K "families_for" "families_for" s_families_for f fd) (T : Txt mg) (fc : FamC K mg C) (c_family_list : Cl P w K mg base 2 "family_list" (PureE K (p_flist C) (q_flist C CF))) : FnOk P w K mg base CX0 3 f fd ["family", "families"] (Pure K (p_ffor C)) := by
  refine pure_ok F sc_families_for (fun ds d h => by obtain ⟨_, _, _, _, _, _, _, rfl, _⟩ := h; rfl) (by decide) fun cdv A outer s H E hr => ?_
  refine ⟨_, (pss_cons (ps_set (i := 2) sc_families_for.nd rfl (Or.inl rfl) (pe_cl c_family_list hr (by decide) (by rfl) (pa_cons (pv 1) pa_nil)))
    (pss_cons (ps_if (pt_cmpR op_ne (pe_callB (r := rLen K) call_lenY (by rfl) T.len PySem.boot_len (pa_cons (pv 2) pa_nil)) (pe_fld (pv 0) rfl) (nomark _)) pss_never pss_nil)
    (pss_one (ps_ret (pv 2))))), ?_⟩
  rintro ds d ⟨n, L, rows, sq, hn, hl, hs, rfl, rfl⟩ De o
  refine sd_seq (sd_asg (d := .tup (fms C rows)) (ep_callE (ea_cons (ep_var rfl) ea_nil) ⟨rows, sq, by omega, hs, rfl, rfl⟩) (fms_im C rows) (sd_go ?_))
  refine sd_seq (sd_if (et_test (ep_op (ep_cb (ea_cons (ep_var (i := 2) (d := .tup (fms C rows)) rfl) ea_nil) rc_lenTn) (ep_fld (ep_var rfl) fc.ob.cl fc.nt rfl) r2_neN)) (fun h => ?_) (fun h => sd_go ?_))
  · rw [hl] at h
    simp at h
  · exact sd_ret (ep_var rfl) o.rt
/-! starts_of -/
abbrev s_starts_of : Stmt := topS 38
abbrev N_starts_of : List Str := ["families", "starts", "start", "family"]
theorem sc_starts_of : FnScope N_starts_of ["families"] (defScope s_starts_of) := ⟨rfl, rfl, rfl, by decide +kernel, rfl, by decide +kernel, by decide +kernel⟩
def p_starts (C : Addr) (ds : List D) (d : D) : Prop := ∃ rows : Rws, rows.length < 1000 ∧ ds = [.tup (fms C rows)] ∧ d = tD (KM.starts (rows.map (·.1)))
theorem ok_starts_of {f C : Addr} {fd : FuncData} (F : Fun K "starts_of" "starts_of" s_starts_of f fd) (T : Txt mg) (fc : FamC K mg C) : FnOk P w K mg base CX0 1 f fd ["families"] (Pure K (p_starts C)) := by
  refine pure_ok F sc_starts_of (fun ds d h => by obtain ⟨_, _, rfl, _⟩ := h; rfl) (by decide) fun cdv A outer s H E hr => ?_
  refine ⟨_, (pss_cons (ps_set (i := 1) sc_starts_of.nd rfl (Or.inl rfl) (pe_lst pa_nil))
    (pss_cons (ps_set (i := 2) sc_starts_of.nd rfl (Or.inl rfl) pe_int)
    (pss_cons (ps_for PassesOwn.never rfl (pi_tup (pv 0)) (pg_name (i := 3) sc_starts_of.nd rfl (Or.inl rfl))
    (pss_cons (ps_expr (pe_bm PySem.F.plainAttrs_list PySem.F.slot_list_append PySem.F.type_list_append mt_append (pv 1) (pa_cons (pv 2) pa_nil)))
    (pss_one (ps_set (i := 2) sc_starts_of.nd rfl (Or.inl rfl) (pe_op op_add (pv 2) (pe_fld (pv 3) rfl))))))
    (pss_one (ps_ret (pe_callTy (r := rTupOf K) call_tupY (by rfl) T.tuple (by decide +kernel) (pa_cons (pv 1) pa_nil))))))), ?_⟩
  rintro ds d ⟨rows, hz, rfl, rfl⟩ De o
  refine sd_seq (sd_asgO (ef_lst ea_nil) rfl fun p => sd_go ?_)
  refine sd_seq (sd_asg (d := iD 0) ep_int rfl (sd_go ?_))
  let St : Nat → List Nat × Nat := fun i => ((rows.take i).map (·.1)).foldl KM.startsS ([], 0)
  refine sd_seq (sd_forTW (c := fun (r : Nat × List (List Nat)) => famD C r.1 r.2) (ts := rows) (fun i E => E = [.val (.tup (fms C rows)), .own p ((St i).1.map iD), .val (iD (St i).2), .no]) (ec_var rfl) rfl ?_ ?_)
  · rintro Z' i r E hr' rfl
    have hst : St (i + 1) = KM.startsS (St i) r.1 := by
      simp only [St]
      rw [take_step hr', List.map_append, List.foldl_append]
      rfl
    have hlen : (St i).1.length < 1000 := by
      have := KM.starts_len ((rows.take i).map (·.1))
      unfold KM.starts at this
      simp only [St]
      rw [this, List.length_map, List.length_take]
      omega
    refine sd_seq (sd_app (p := p) (i := 1) rfl (ep_var (i := 2) (d := iD (St i).2) rfl) rfl (by rw [List.length_map]; omega) (sd_go ?_))
    refine sd_asg (d := iD ((St i).2 + r.1)) (ep_is (ep_op (ep_var (i := 2) (d := iD (St i).2) rfl) (ep_fld (ep_var (i := 3) (d := famD C r.1 r.2) rfl) fc.ob.cl fc.nt rfl) r2_int) (by unfold iD; rw [Int.natCast_add])) rfl (sd_lw rfl ?_)
    rw [hst]
    unfold KM.startsS
    simp only [List.map_append]
    exact .eq (.eq (.eq (.no .nil)))
  · rintro E rfl
    refine sd_go (sd_ret (ep_is (ep_cb (ea_cons (ep_own (i := 1) rfl) ea_nil) rc_tupleL) ?_) o.rt)
    simp only [St]
    rw [List.take_length, tD_eq]
    rfl
end
end Y
set_option Elab.async false
set_option linter.all false
set_option autoImplicit false
set_option maxRecDepth 100000
set_option maxHeartbeats 4000000
namespace Y
open PySem L2
/-! the scope of a comprehension within a comprehension -/
def lcE (e : Expr) : Scope := match e with
  | .ListComp _ _ sc _ => sc
  | .SetComp _ _ sc _ => sc
  | _ => excScope
def argE (i : Nat) (e : Expr) : Expr := match e with
  | .Call f es _ _ => es.getD i f
  | _ => e
def stE (s : Stmt) : Expr := match s with
  | .Expr e _ => e
  | .Return (some e) _ => e
  | .Assign _ e _ => e
  | .For e _ _ _ _ => e
  | _ => .Constant .none 0 ⟨0, 0, 0, 0⟩
def forB (s : Stmt) : List Stmt := match s with
  | .For _ _ b _ _ => b
  | _ => []
def at_ (i : Nat) (l : List Stmt) : Stmt := l.getD i (.Pass ⟨0, 0, 0, 0⟩)
/-- what a family is made of, sets in any order -/
structure InG (n : Nat) (ls : List (List Nat)) : Prop where
  n1 : 1 ≤ n
  n2 : n ≤ 60
  ne : ls ≠ []
  len : ls.length < 1000
  lne : ∀ l ∈ ls, l ≠ []
  nd : ∀ l ∈ ls, l.Nodup
  lt : ∀ l ∈ ls, ∀ x ∈ l, x < n
theorem InOk.g {n : Nat} {ls : List (List Nat)} (h : InOk n ls) : InG n ls := ⟨h.n1, h.n2, h.ne, h.len, h.lne, fun l hl => (h.asc l hl).imp fun h => Nat.ne_of_lt h, h.lt⟩
theorem InG.srt {n : Nat} {ls : List (List Nat)} (h : InG n ls) : InOk n (ls.map KM.sortN) := by
  refine ⟨h.n1, h.n2, by simpa using h.ne, by rw [List.length_map]; exact h.len, fun l hl => ?_, fun l hl => ?_, fun l hl => ?_⟩ <;> obtain ⟨m, hm, rfl⟩ := List.mem_map.mp hl
  · intro z
    have := (KM.sortN_perm m).length_eq
    rw [z] at this
    exact h.lne m hm (List.length_eq_zero_iff.mp this.symm)
  · exact KM.sortN_nd (h.nd m hm)
  · exact fun x hx => h.lt m hm x (KM.sortN_mem.mp hx)
theorem nodup_le {l : List Nat} {n : Nat} (nd : l.Nodup) (h : ∀ x ∈ l, x < n) : l.length ≤ n := by
  have := nd.length_le_of_subset (l₂ := List.range n) fun x hx => List.mem_range.mpr (h x hx)
  rwa [List.length_range] at this
theorem InG.row {n : Nat} {ls : List (List Nat)} (h : InG n ls) {l : List Nat} (hl : l ∈ ls) : Row n l := ⟨by have := nodup_le (h.nd l hl) (h.lt l hl); have := h.n2; omega, h.nd l hl, h.lt l hl⟩
section
variable {P : Program} {w : World} {K : PySem.W.Frag} {mg : Str → Option Value} {base : Heap}
/-! ask_things, raising -/
def q_athings (CN : Addr) (ds : List D) (C' : Addr) (x : XF) : Prop := C' = CN ∧ ∃ e : D, e.tyN.isSome = true ∧ (isInt e 1 = false ∨ ∃ n : Nat, e = iD n ∧ 60 < n) ∧ ds = [e] ∧ x = xW "things"
theorem ok_ask_thingsE {f CN fN : Addr} {fd : FuncData} {tM : Tok} (F : Fun K "ask_things" "ask_things" s_ask_things f fd) (T : Txt mg) (hM : mg "MOST_THINGS" = some (.int 60 tM)) (xN : XcS P K mg "BadNumber" "bad number: " CN fN) (c_is_integer : Cl P w K mg base 1 "is_integer" (Pure K p_is_integer)) :
    FnOk P w K mg base (L2.CX P w) 2 f fd ["things"] (PureE K p_ask_things (q_athings CN)) := by
  refine pureE_ok F sc_ask_things (fun ds h => by
    rcases h with ⟨d, _, _, _, rfl, _⟩ | ⟨_, _, _, _, _, _, rfl, _⟩ <;> rfl) (by decide) fun cdv A outer s H E hr => ?_
  have tk : L2.Takes (cxOf (L2.CX P w) P w K mg base N_ask_things "ask_things" (defScope s_ask_things) f cdv A outer s H E) (fun cls d _ H => E cls d H) := takes_of rfl rfl rfl rfl
  refine ⟨_, (pss_one (ps_if (pw_or (pt_not (pt_val (pe_cl c_is_integer hr (by decide) (by rfl) (pa_cons (pv 0) (pa_cons pe_int pa_nil))))) (pw_or1 (pt_cmpR op_gt (pv 0) (pe_glob (v := .int 60) (by rfl) hM ⟨_, rfl⟩) (nomark _)))).pt
    (pss_one (ps_raise (by rfl) tk (pmk_exs (k := 0) xN.c (by decide) (hr.mono (by decide)) (by rfl) xN.m xN.s (pa_cons pe_str pa_nil)))) pss_nil)), ?_, ?_⟩
  · rintro ds d ⟨n, hn, hn2, rfl, rfl⟩ De o
    have e : isInt (iD n) 1 = true := by simp [isInt, iD]; omega
    have e2 : decide ((60 : Int) < (n : Int)) = false := decide_eq_false (by omega)
    refine sd_if (et_or (et_not (et_B (ep_call (ea_cons (ep_var rfl) (ea_cons ep_int ea_nil)) ⟨iD n, 1, rfl, rfl, rfl⟩))) fun _ => et_test (ep_op (ep_var rfl) ep_int (r2_cmp (g := fun i j => decide (j < i))))) (fun h => ?_) (fun h => sd_end o)
    rw [e, e2] at h
    cases h
  · rintro ds C' x ⟨rfl, e, he, hb, rfl, rfl⟩ De o
    have rs : ∀ {D' : Ends}, SD K [] H (fun _ => True) _ D' (entry N_ask_things [e]) := fun {D'} => sd_raiseS (De := D') (W := fun cls d _ H => E cls d H) (C := C') (n := "things") (ea_cons ep_str ea_nil) (by decide) (wf_of o)
    rcases hb with hb | ⟨n, rfl, hn⟩
    · refine sd_if (b := !isInt e 1 || false) (et_or (et_not (et_B (ep_call (ea_cons (ep_var rfl) (ea_cons ep_int ea_nil)) ⟨e, 1, he, rfl, rfl⟩))) fun h => by rw [hb] at h; cases h) (fun h => rs) (fun h => ?_)
      rw [hb] at h
      cases h
    · have e2 : decide ((60 : Int) < (n : Int)) = true := decide_eq_true (by omega)
      refine sd_if (et_or (et_not (et_B (ep_call (ea_cons (ep_var rfl) (ea_cons ep_int ea_nil)) ⟨iD n, 1, rfl, rfl, rfl⟩))) fun _ => et_test (ep_op (ep_var rfl) ep_int (r2_cmp (g := fun i j => decide (j < i))))) (fun h => rs) (fun h => ?_)
      rw [e2] at h
      simp at h
/-! checked_lot, of a list or a tuple -/
def p_checkedG (ds : List D) (d : D) : Prop := ∃ (l : List Nat) (n i : Nat) (s : D), 1 ≤ n ∧ Row n l ∧ l ≠ [] ∧ Seq s (l.map iD) ∧ ds = [s, iD i, iD n] ∧ d = tD (KM.sortN l)
theorem ok_checked_lotG {f : Addr} {fd : FuncData} {CB : Addr} (F : Fun K "checked_lot" "checked_lot" s_checked_lot f fd) (T : Txt mg) (c_set_of : Cl P w K mg base 3 "set_of" (PureX K p_set_of (q_set_of CB))) : FnOk P w K mg base CX0 4 f fd ["lot", "place", "things"] (Pure K p_checkedG) := by
  refine pure_ok F sc_checked_lot (fun ds d h => by obtain ⟨_, _, _, _, _, _, _, _, rfl, _⟩ := h; rfl) (by decide) fun cdv A outer s H E hr => ?_
  refine ⟨_, (pss_cons (ps_try_thru0 (pss_one (ps_set (i := 3) sc_checked_lot.nd rfl (Or.inl rfl) (pe_cl c_set_of hr (by decide) (by rfl) (pa_cons (pv 0) (pa_cons (pv 2) pa_nil))))))
    (pss_cons (ps_if (pt_cmpR op_eq (pe_callB (r := rLen K) call_lenY (by rfl) T.len PySem.boot_len (pa_cons (pv 3) pa_nil)) pe_int (nomark _)) pss_never pss_nil)
    (pss_one (ps_ret (pv 3))))), ?_⟩
  rintro ds d ⟨l, n, i, sq, hn, hl, hne, hs, rfl, rfl⟩ De o
  refine sd_seq (sd_asg (ep_callX (ea_cons (ep_var rfl) (ea_cons (ep_var rfl) ea_nil)) ⟨l, n, sq, hn, hl, hs, rfl, rfl⟩) (tD_im _) (sd_go ?_))
  have hz : (KM.sortN l).length ≠ 0 := by
    rw [(KM.sortN_perm l).length_eq]
    exact fun z => hne (List.length_eq_zero_iff.mp z)
  refine sd_seq (sd_if (et_test (ep_op (ep_is (ep_cb (ea_cons (ep_var (d := .tup ((KM.sortN l).map iD)) (by rw [← tD_eq]; rfl)) ea_nil) rc_lenTn) rfl) ep_n0 r2_eqN)) (fun h => ?_) (fun h => sd_go ?_))
  · exact absurd (by simpa using h) hz
  · exact sd_ret (ep_var rfl) o.rt
/-! Family's making, of lists or tuples -/
def p_initG (ds : List D) (ns : List Str) (l : List D) : Prop := ∃ (n : Nat) (ls : List (List Nat)) (c : List Nat → D) (s : D), InG n ls ∧ (c = tD ∨ c = nD) ∧ Seq s (ls.map c) ∧ ds = [iD n, s] ∧ ns = (["things", "lots"] : List Str) ∧ l = [iD n, tsD (KM.leastLots (ls.map KM.sortN))]
theorem cSeq {c : List Nat → D} (h : c = tD ∨ c = nD) (l : List Nat) : Seq (c l) (l.map iD) := by
  rcases h with rfl | rfl
  · exact .inl (tD_eq l)
  · exact .inr rfl
theorem cNob {c : List Nat → D} (h : c = tD ∨ c = nD) (l : List Nat) : (c l).nob = true := by
  rcases cSeq h l with e | e <;> rw [e]
  · exact nobAll_iff.mpr fun d hd => by obtain ⟨x, _, rfl⟩ := List.mem_map.mp hd; rfl
  · exact nobAll_iff.mpr fun d hd => by obtain ⟨x, _, rfl⟩ := List.mem_map.mp hd; rfl
theorem ok_initG {f C : Addr} {fd : FuncData} (F : Fun K "__init__" "Family.__init__" s_Family_init f fd) (T : Txt mg) (fc : FamC K mg C) (c_ask_things : Cl P w K mg base 2 "ask_things" (Pure K p_ask_things)) (c_checked_lot : Cl P w K mg base 4 "checked_lot" (Pure K p_checkedG))
    (c_least_lots : Cl P w K mg base 3 "least_lots" (Pure K p_least_lots)) : FnOk P w K mg base CX0 5 f fd ["self", "things", "lots"] (InitP K C p_initG) := by
  refine init_ok F sc_Family_init (fun ds ns l h => by obtain ⟨_, _, _, _, _, _, _, rfl, _⟩ := h; rfl) (by decide) fun cdv A outer s H E hr => ?_
  refine ⟨_, (pss_cons (ps_expr (pe_cl c_ask_things hr (by decide) (by rfl) (pa_cons (pv 1) pa_nil)))
    (pss_cons (ps_if (pt_not (pt_val (pe_callB (r := rIsiT K) call_isiT (by rfl) T.isinstance (by decide +kernel) (pa_cons (pv 2) (pa_cons (pe_tup (pa_cons (pe_bltn (v := .ty "list") (by rfl) T.list (by decide +kernel) rfl) (pa_cons (pe_bltn (v := .ty "tuple") (by rfl) T.tuple (by decide +kernel) rfl) pa_nil))) pa_nil))))) pss_never pss_nil)
    (pss_cons (ps_setLc (i := 3) (own := [("place", 4)]) (g := gName 4) rfl sc_Family_init.nd rfl rfl (sw_true rfl rfl rfl (by decide +kernel)) (pi_range1 (by rfl) T.range (pa_cons (pe_callB (r := rLen K) call_lenY (by rfl) T.len PySem.boot_len (pa_cons (pv 2) pa_nil)) pa_nil)) (blkOk_by (N := N_Family_init) (sc := defScope s_Family_init) (by decide +kernel)) (fun _ _ _ _ _ => pg_name (i := 4) sc_Family_init.nd rfl (Or.inl rfl)) (fun _ _ _ _ _ => pts_nil) (fun _ _ _ _ _ => (pe_cl c_checked_lot hr (by decide) (by rfl) (pa_cons (pe_ix (r := rIx K) ix_seq (pv 2) (pv 4) (fun _ _ => rfl)) (pa_cons (pv 4) (pa_cons (pv 1) pa_nil))))))
    (pss_cons (ps_if (pt_cmpR op_eq (pe_callB (r := rLen K) call_lenY (by rfl) T.len PySem.boot_len (pa_cons (pv 3) pa_nil)) pe_int (nomark _)) pss_never pss_nil)
    (pss_cons (ps_fld (pv 0) (pv 1) rfl)
    (pss_one (ps_fld (pv 0) (pe_cl c_least_lots hr (by decide) (by rfl) (pa_cons (pv 3) pa_nil)) rfl))))))), ?_⟩
  rintro ds ns l a dx ⟨n, ls, c, sq, hi, hc, hs, rfl, rfl, rfl⟩ De o
  obtain ⟨ty, ht, hty⟩ := hs.ty
  obtain ⟨_, _, k1, k2⟩ := kit_int (tyN_mem ht)
  refine sd_seq (sd_drop (ep_call (ea_cons (ep_var rfl) ea_nil) ⟨n, hi.n1, hi.n2, rfl, rfl⟩) (sd_go ?_))
  refine sd_seq (sd_if (et_not (et_B (ep_isiT (ep_var rfl) ht k1 k2))) (fun h => ?_) (fun h => ?_))
  · rw [hty] at h
    cases h
  refine sd_go ?_
  have hl2 := hi.len
  have e0 : EF K [a] H (ZI K a C dx [] []) (tLc (iRng1 (tCons (tCB (rLen K) (tCons (tVar 2) tNil)) tNil)) (gName 4) tYes (tCall (Pure K p_checkedG) [] E0 (tCons (tOp (rIx K) (tVar 2) (tVar 4)) (tCons (tVar 4) (tCons (tVar 1) tNil)))) [4]) (entry N_Family_init [.adr a, iD n, sq]) ((ls.map KM.sortN).map tD) := by
    have h1 := ef_lcR1 (K := K) (B := [a]) (H0 := H) (Z := ZI K a C dx [] []) (E := entry N_Family_init [.adr a, iD n, sq]) (j := 4) (n := (ls.length : Int)) (te := tCall (Pure K p_checkedG) [] E0 (tCons (tOp (rIx K) (tVar 2) (tVar 4)) (tCons (tVar 4) (tCons (tVar 1) tNil)))) (fun i => tD (KM.sortN (ls.getD i []))) (ea_cons (ep_is (ep_cb (ea_cons (ep_var (i := 2) rfl) ea_nil) hs.len) (by rw [List.length_map])) ea_nil) (by omega) (fun i hi' => ?_) (fun _ _ => tD_im _)
    · have e3 : (List.range ((ls.length : Int)).toNat).map (fun i => tD (KM.sortN (ls.getD i []))) = (ls.map KM.sortN).map tD := by
        have : ((ls.length : Int)).toNat = ls.length := by omega
        rw [this]
        refine List.ext_getElem (by simp) fun i h1 h2 => ?_
        have hlt : i < ls.length := by simpa using h2
        simp [List.getD, List.getElem?_eq_getElem hlt]
      rw [e3] at h1
      exact h1
    · have hlt : i < ls.length := by omega
      have e1 : (ls.map c)[i]? = some (c ls[i]) := by rw [List.getElem?_map, List.getElem?_eq_getElem hlt]; rfl
      have e2 : ls.getD i [] = ls[i] := by simp [List.getD, List.getElem?_eq_getElem hlt]
      have hm := List.getElem_mem hlt
      rw [e2]
      exact ep_call (ea_cons (ep_op (ep_var rfl) (ep_var (d := iD i) rfl) (hs.ix e1)) (ea_cons (ep_var (d := iD i) rfl) (ea_cons (ep_var rfl) ea_nil))) ⟨ls[i], n, i, c ls[i], hi.n1, hi.row hm, hi.lne _ hm, cSeq hc _, rfl, rfl⟩
  refine sd_seq (sd_asgL e0 (imAll_tD _) (sd_go ?_))
  refine sd_seq (sd_if (et_test (ep_op (ep_is (ep_cb (ea_cons (ep_var (d := .lst ((ls.map KM.sortN).map tD)) rfl) ea_nil) rc_lenLn) rfl) ep_n0 r2_eqN)) (fun h => ?_) (fun h => sd_go ?_))
  · exact absurd (by simpa using h) (by simpa using hi.ne)
  have nbT : ∀ l : List Nat, (tD l).nob = true := fun l => cNob (.inl rfl) l
  have nbL : ∀ ls : List (List Nat), nobAll (ls.map tD) = true := fun ls => nobAll_iff.mpr fun d hd => by obtain ⟨x, _, rfl⟩ := List.mem_map.mp hd; exact nbT x
  have nbC : nobAll (ls.map c) = true := nobAll_iff.mpr fun d hd => by obtain ⟨x, _, rfl⟩ := List.mem_map.mp hd; exact cNob hc x
  have nbS : sq.nob = true := by
    rcases hs with rfl | rfl
    · exact nbC
    · exact nbC
  have hE : ∀ s ∈ (entry N_Family_init [.adr a, iD n, sq]).set 3 (.val (.lst ((ls.map KM.sortN).map tD))), nobS s = true := fun s hs => by
    have : s ∈ [Slot.val (.adr a), .val (iD n), .val sq, .val (.lst ((ls.map KM.sortN).map tD)), .no] := hs
    simp only [List.mem_cons, List.not_mem_nil, or_false] at this
    rcases this with rfl | rfl | rfl | rfl | rfl
    · rfl
    · rfl
    · exact nbS
    · exact nbL _
    · rfl
  refine sd_seq (sd_fld (ep_var rfl) (ep_var (d := iD n) rfl) fc.ob.cl fc.nt hE rfl rfl rfl (by simp) (by simp) (sd_go ?_))
  refine sd_fld (ep_var rfl) (ep_call (ea_cons (ep_var (d := lsD (ls.map KM.sortN)) rfl) ea_nil) ⟨ls.map KM.sortN, hi.srt.lots, rfl, rfl⟩) fc.ob.cl fc.nl hE (tsD_im _) (nbL _) rfl (by decide) (by simp) ?_
  exact sd_endI o
end
end Y
set_option Elab.async false
set_option linter.all false
set_option autoImplicit false
set_option maxRecDepth 100000
set_option maxHeartbeats 4000000
namespace Y
open PySem L2
def sizeR (rows : Rws) : Nat := (rows.map (·.1)).sum
/-- families may be put in -/
structure CallOk (n : Nat) (L : List (List Nat)) (rows : Rws) : Prop where
  len : rows.length = n
  n3 : n < 1000
  s1 : 1 ≤ sizeR rows
  s2 : sizeR rows ≤ 60
  inn : ∀ r ∈ rows, r.2.length < 1000 ∧ ∀ l ∈ r.2, l.length < 1000
  put : PutOk L (KM.shares rows)
  out : InOk (sizeR rows) (KM.srt (KM.putL L (KM.shares rows)))
def putD (C : Addr) (L : List (List Nat)) (rows : Rws) : D := famD C (sizeR rows) (KM.leastLots (KM.srt (KM.putL L (KM.shares rows))))
def p_fcall (C : Addr) (ds : List D) (d : D) : Prop := ∃ (n : Nat) (L : List (List Nat)) (rows : Rws) (s : D), CallOk n L rows ∧ Seq s (fms C rows) ∧ ds = [famD C n L, s] ∧ d = putD C L rows
def q_fcall (C CN : Addr) (ds : List D) (C' : Addr) (x : XF) : Prop := C' = CN ∧ ∃ (n : Nat) (L : List (List Nat)) (rows : Rws) (s : D), rows.length = n ∧ n < 1000 ∧ 60 < sizeR rows ∧ Seq s (fms C rows) ∧ ds = [famD C n L, s] ∧ x = xW "things"
section
variable {P : Program} {w : World} {K : PySem.W.Frag} {mg : Str → Option Value} {base : Heap}
theorem sum_iD : ∀ (l : List Nat), (l.map fun (n : Nat) => (n : Int)).sum = ((l.sum : Nat) : Int)
  | [] => rfl
  | a :: l => by
    rw [List.map_cons, List.sum_cons, sum_iD l, List.sum_cons]
    omega

/-! Family.call -/
abbrev s_Family_call : Stmt := inClass (topS 35) 13
abbrev N_Family_call : List Str := ["self", "families", "parts", "size", "part", "starts", "shares", "e", "lot", "f"]
theorem sc_Family_call : FnScope N_Family_call ["self", "families"] (defScope s_Family_call) := ⟨rfl, rfl, rfl, by decide +kernel, rfl, by decide +kernel, by decide +kernel⟩
theorem ok_fcall {f C CN : Addr} {fd : FuncData} (F : Fun K "__call__" "Family.__call__" s_Family_call f fd) (T : Txt mg) (fc : FamC K mg C) (c_families_for : Cl P w K mg base 3 "families_for" (Pure K (p_ffor C))) (c_ask_thingsE : ClX P w K mg base 2 "ask_things" (PureE K p_ask_things (q_athings CN)))
    (c_starts_of : Cl P w K mg base 1 "starts_of" (Pure K (p_starts C))) (c_Family : ClI P w K mg base 5 C "Family" (InitP K C p_init)) (c_lots_put : Cl P w K mg base 1 "lots_put" (Pure K p_put)) :
    FnOk P w K mg base (L2.CX P w) 7 f fd ["self", "families"] (PureE K (p_fcall C) (q_fcall C CN)) := by
  refine pureE_ok F sc_Family_call (fun ds h => by
    rcases h with ⟨d, _, _, _, _, _, _, rfl, _⟩ | ⟨_, _, _, _, _, _, _, _, _, _, _, rfl, _⟩ <;> rfl) (by decide) fun cdv A outer s H E hr => ?_
  have tk : L2.Takes (cxOf (L2.CX P w) P w K mg base N_Family_call "Family.__call__" (defScope s_Family_call) f cdv A outer s H E) (fun cls d _ H => E cls d H) := takes_of rfl rfl rfl rfl
  have po : PassesOwn (model P w) (cxOf (L2.CX P w) P w K mg base N_Family_call "Family.__call__" (defScope s_Family_call) f cdv A outer s H E).A (cxOf (L2.CX P w) P w K mg base N_Family_call "Family.__call__" (defScope s_Family_call) f cdv A outer s H E).env (cxOf (L2.CX P w) P w K mg base N_Family_call "Family.__call__" (defScope s_Family_call) f cdv A outer s H E).xe := passes_of rfl
  refine ⟨_, (pss_cons (ps_set (i := 2) sc_Family_call.nd rfl (Or.inl rfl) (pe_cl c_families_for hr (by decide) (by rfl) (pa_cons (pv 0) (pa_cons (pv 1) pa_nil))))
    (pss_cons (ps_set (i := 3) sc_Family_call.nd rfl (Or.inl rfl) (pe_callB (r := rSum K) (cr_sum rfl) (by rfl) T.sum (by decide +kernel) (pa_cons (pe_lc (own := [("part", 4)]) (g := gName 4) rfl sc_Family_call.nd (pi_tup (pv 2)) (blkOk_by (N := N_Family_call) (sc := defScope s_Family_call) (by decide +kernel)) (fun _ _ _ _ _ => pg_name (i := 4) sc_Family_call.nd rfl (Or.inl rfl)) (fun _ _ _ _ _ => pts_nil) (fun _ _ _ _ _ => (pe_fldY (K := K) (pv 4) (by rfl) rfl))) pa_nil)))
    (pss_cons (ps_expr (pe_clX c_ask_thingsE hr (by decide) (by rfl) tk (pa_cons (pv 3) pa_nil)))
    (pss_cons (ps_set (i := 5) sc_Family_call.nd rfl (Or.inr rfl) (pe_cl c_starts_of hr (by decide) (by rfl) (pa_cons (pv 2) pa_nil)))
    (pss_cons (ps_set (i := 6) sc_Family_call.nd rfl (Or.inl rfl) (pe_lst pa_nil))
    (pss_cons (ps_for po rfl (pi_range1 (by rfl) T.range (pa_cons (pe_fld (pv 0) rfl) pa_nil)) (pg_name (i := 7) sc_Family_call.nd rfl (Or.inr rfl))
    (pss_one (ps_expr (pe_bm PySem.F.plainAttrs_list PySem.F.slot_list_append PySem.F.type_list_append mt_append (pv 6) (pa_cons (pe_lc (own := [("lot", 8)]) (g := gName 8) rfl sc_Family_call.nd (pi_tup (pe_fld (pe_ix (r := rIxT K) ix_tup (pv 2) (pv 7) (fun _ _ => rfl)) rfl)) (blkOk_by (N := N_Family_call) (sc := defScope s_Family_call) (by decide +kernel)) (fun _ _ _ _ _ => pg_name (i := 8) sc_Family_call.nd rfl (Or.inl rfl)) (fun _ _ _ _ _ => pts_nil)
      (fun _ _ _ _ _ => (pe_callTy (r := rTupOf K) call_tupY (by rfl) T.tuple (by decide +kernel) (pa_cons (pe_lc (own := [("f", 9)]) (g := gName 9) rfl sc_Family_call.nd (pi_tupY rfl (pv 8)) (blkOk_by (N := N_Family_call) (sc := relS (lcE (argE 0 (stE (at_ 0 (forB (at_ 5 (defBody s_Family_call))))))) (defScope s_Family_call)) (by decide +kernel)) (fun _ _ _ _ _ => pg_name (i := 9) sc_Family_call.nd rfl (Or.inl rfl)) (fun _ _ _ _ _ => pts_nil) (fun _ _ _ _ _ => (pe_op op_add (pv 9) (pe_ix (r := rIxT K) ix_tup (pv 5) (pv 7) (fun _ _ => rfl))))) pa_nil)))) pa_nil)))))
    (pss_one (ps_ret (pe_clI c_Family hr (by decide) (by rfl) (pa_cons (pv 3) (pa_cons (pe_cl c_lots_put hr (by decide) (by rfl) (pa_cons (pe_fld (pv 0) rfl) (pa_cons (pv 6) pa_nil))) pa_nil))))))))))), ?_, ?_⟩
  · rintro ds d ⟨n, L, rows, sq, hc, hs, rfl, rfl⟩ De o
    have hn3 := hc.n3
    refine sd_seq (sd_asg (d := .tup (fms C rows)) (ep_call (ea_cons (ep_var (i := 0) (d := famD C n L) rfl) (ea_cons (ep_var (i := 1) (d := sq) rfl) ea_nil)) ⟨n, L, rows, sq, hc.n3, hc.len, hs, rfl, rfl⟩) (fms_im C rows) (sd_go ?_))
    have eSum : EP K [] H (fun _ => True) (tCB (rSum K) (tCons (tLc (iTup K (tVar 2)) (gName 4) tYes (tFld K (tVar 4) "things") [4]) tNil)) ((entry N_Family_call [famD C n L, sq]).set 2 (.val (.tup (fms C rows)))) (iD (sizeR rows)) := by
      refine ep_is (ep_cb (ea_cons (EF.p (ef_is (ef_lcT1 (c := fun (r : Nat × List (List Nat)) => famD C r.1 r.2) (ts := rows) (fun r => iD r.1) (ep_var (i := 2) rfl) (fun _ _ => famD_im _ _ _) (by have := hc.len; omega) (fun r hr' => ep_fld (ep_var (i := 4) (d := famD C r.1 r.2) rfl) fc.ob.cl fc.nt rfl) (fun _ _ => rfl)) (m := ((rows.map (·.1)).map fun (n : Nat) => (n : Int)).map D.int) (by rw [List.map_map, List.map_map]; rfl))) ea_nil) rc_sum) ?_
      rw [sum_iD]
      rfl
    refine sd_seq (sd_asg (d := iD (sizeR rows)) eSum rfl (sd_go ?_))
    refine sd_seq (sd_drop (d := .non) (ep_callES (ea_cons (ep_var (i := 3) (d := iD (sizeR rows)) rfl) ea_nil) ⟨sizeR rows, hc.s1, hc.s2, rfl, rfl⟩) (sd_go ?_))
    refine sd_seq (sd_asg (d := tD (KM.starts (rows.map (·.1)))) (ep_call (ea_cons (ep_var (i := 2) (d := .tup (fms C rows)) rfl) ea_nil) ⟨rows, by have := hc.len; omega, rfl, rfl⟩) (tD_im _) (sd_go ?_))
    refine sd_seq (sd_asgO (ef_lst ea_nil) rfl fun p => sd_go ?_)
    let g : Nat → List (List Nat) := fun e => KM.up ((KM.starts (rows.map (·.1))).getD e 0) ((rows.getD e (0, [])).2)
    have hsh : KM.shares rows = (List.range n).map g := by unfold KM.shares; rw [hc.len]
    refine sd_seq (sd_forRP (n := (n : Int)) (fun _ => True) (ea_cons (ep_fld (ep_var (i := 0) (d := famD C n L) rfl) fc.ob.cl fc.nt rfl) ea_nil) (by omega) (fun i => [.val (famD C n L), .val sq, .val (.tup (fms C rows)), .val (iD (sizeR rows)), .no, .val (tD (KM.starts (rows.map (·.1)))), .own p (((List.range i).map g).map lsD), .no, .no, .no]) rfl trivial (fun i hi _ => ?_) (fun _ => sd_go ?_))
    · have hi' : i < rows.length := by have := hc.len; omega
      have hin := hc.inn rows[i] (List.getElem_mem hi')
      have hrg : rows.getD i (0, []) = rows[i] := by simp [List.getD, List.getElem?_eq_getElem hi']
      have hsl : i < (KM.starts (rows.map (·.1))).length := by rw [KM.starts_len, List.length_map]; exact hi'
      generalize hst : KM.starts (rows.map (·.1)) = st at hsl
      have hsg : st.getD i 0 = st[i] := by simp [List.getD, List.getElem?_eq_getElem hsl]
      have hg : g i = rows[i].2.map fun l => l.map fun f => f + st[i] := by
        simp only [g]
        rw [hrg, hst, hsg]
        rfl
      refine sd_appC (p := p) (i := 6) (l := ((List.range i).map g).map lsD) (d := lsD (g i)) rfl (ec_new (ef_is (ef_lcT1 (j := 8) (c := tD) (ts := rows[i].2) (fun l => tD (l.map fun f => f + st[i])) (ep_fld (ep_op (ep_var (i := 2) (d := .tup (fms C rows)) rfl) (ep_var (i := 7) (d := iD i) rfl) (r2_ixT (atI_nat (d := famD C rows[i].1 rows[i].2) ?_))) fc.ob.cl fc.nl rfl) (fun _ _ => tD_im _) (by have := hin.1; omega) (fun l hl => ?_) (fun _ _ => tD_im _)) ?_) (imAll_tD _)) (by rw [List.length_map, List.length_map, List.length_range]; omega) (sd_lp trivial ?_)
      · unfold fms
        rw [List.getElem?_map, List.getElem?_eq_getElem hi']
        rfl
      · refine ep_is (ep_cb (ea_cons (EF.p (ef_lcT1 (j := 9) (c := iD) (ts := l) (fun f => iD (f + st[i])) (ep_is (ep_var (i := 8) (d := tD l) rfl) (tD_eq l)) (fun _ _ => rfl) (by have := hin.2 l hl; omega) (fun f hf => ep_is (ep_op (ep_var (i := 9) (d := iD f) rfl) (ep_op (ep_is (ep_var (i := 5) (d := tD st) rfl) (tD_eq st)) (ep_var (i := 7) (d := iD i) rfl) (r2_ixT (atI_nat (d := iD st[i]) ?_))) r2_int) (by unfold iD; rw [Int.natCast_add])) (fun _ _ => rfl))) ea_nil) rc_tupleL) ?_
        · rw [List.getElem?_map, List.getElem?_eq_getElem hsl]
          rfl
        · rw [tD_eq, List.map_map]
          rfl
      · rw [hg, List.map_map]
        rfl
      · rw [List.range_succ, List.map_append, List.map_append]
        exact .eq (.eq (.eq (.eq (.no (.eq (.eq (.no (.eq (.eq .nil)))))))))
    · have hn0 : ((n : Int)).toNat = n := by omega
      rw [hn0, ← hsh]
      refine sd_ret (ep_make (ea_cons (ep_var (i := 3) (d := iD (sizeR rows)) rfl) (ea_cons (ep_call (d := tsD (KM.srt (KM.putL L (KM.shares rows)))) (ea_cons (ep_fld (ep_var (i := 0) (d := famD C n L) rfl) fc.ob.cl fc.nl rfl) (ea_cons (ep_own (i := 6) rfl) ea_nil)) ⟨L, KM.shares rows, hc.put, rfl, rfl⟩) ea_nil)) ⟨sizeR rows, _, _, hc.out, .inl rfl, rfl, rfl, rfl⟩) o.rt
  · rintro ds C' x ⟨rfl, n, L, rows, sq, hl, hn3, hbig, hs, rfl, rfl⟩ De o
    refine sd_seq (sd_asg (d := .tup (fms C rows)) (ep_call (ea_cons (ep_var (i := 0) (d := famD C n L) rfl) (ea_cons (ep_var (i := 1) (d := sq) rfl) ea_nil)) ⟨n, L, rows, sq, hn3, hl, hs, rfl, rfl⟩) (fms_im C rows) (sd_go ?_))
    have eSum : EP K [] H (fun _ => True) (tCB (rSum K) (tCons (tLc (iTup K (tVar 2)) (gName 4) tYes (tFld K (tVar 4) "things") [4]) tNil)) ((entry N_Family_call [famD C n L, sq]).set 2 (.val (.tup (fms C rows)))) (iD (sizeR rows)) := by
      refine ep_is (ep_cb (ea_cons (EF.p (ef_is (ef_lcT1 (c := fun (r : Nat × List (List Nat)) => famD C r.1 r.2) (ts := rows) (fun r => iD r.1) (ep_var (i := 2) rfl) (fun _ _ => famD_im _ _ _) (by omega) (fun r hr' => ep_fld (ep_var (i := 4) (d := famD C r.1 r.2) rfl) fc.ob.cl fc.nt rfl) (fun _ _ => rfl)) (m := ((rows.map (·.1)).map fun (n : Nat) => (n : Int)).map D.int) (by rw [List.map_map, List.map_map]; rfl))) ea_nil) rc_sum) ?_
      rw [sum_iD]
      rfl
    refine sd_seq (sd_asg (d := iD (sizeR rows)) eSum rfl (sd_go ?_))
    exact sd_seq (sd_dropR (er_callE (ea_cons (ep_var (i := 3) (d := iD (sizeR rows)) rfl) ea_nil) ⟨rfl, iD (sizeR rows), rfl, .inr ⟨_, rfl, hbig⟩, rfl, rfl⟩ (wf_of o)))
end
end Y
set_option Elab.async false
set_option linter.all false
set_option autoImplicit false
set_option maxRecDepth 100000
set_option maxHeartbeats 4000000
namespace Y
open PySem L2
section
variable {K : PySem.W.Frag} {B : List Addr} {H0 : Hp} {Z : Hp → Prop} {E : List Slot} {ta tb tc te : TE} {d x : D} {l m : List D} {De : Ends}
/-- one more new list of a comprehension -/
theorem lcw_addF {Hb : Hp} {p q : Addr} {l m : List D} {H' H4 : Hp} {vs : List V} (w : Lcw K Hb p l H') (nq : H' q = none) (e4 : Ex H' H4) (hq : H4 q = some (.lst vs)) (hy : IsAll K H4 vs m) (im : imAll m = true) : ∃ acc, H4 p = some (.lst acc) ∧ acc.length = l.length ∧ Lcw K Hb p (l ++ [.lst m]) (upd H4 p (.lst (acc ++ [V.ref q]))) := by
  obtain ⟨acc, w1, w2⟩ := w.at_
  have qp : q ≠ p := fun z => by rw [z, w1] at nq; cases nq
  refine ⟨acc, e4 _ _ w1, w2.length, w.fr, fun a o z => ?_, acc ++ [V.ref q], upd_same, ?_⟩
  · rw [upd_ne (ne_of_none z w.fr)]
    exact e4 _ _ (w.ex _ _ z)
  · have e5 : Ex (hid [p] H4) (hid [p] (upd H4 p (.lst (acc ++ [V.ref q])))) := fun a o z => by
      obtain ⟨q1, q2⟩ := hid_some z
      rw [hid_at q1, upd_ne (by simpa using q1)]
      exact q2
    have hl : Lsts [p] H4 := fun a ha => by
      have : a = p := by simpa using ha
      exact ⟨acc, by rw [this]; exact e4 _ _ w1⟩
    refine ((w2.mono (hid_ex e4)).mono e5).append (.one ((Is.lst (SqL.of ?_) (hy.clean hl im)).mono e5))
    rw [hid_at (by simpa using qp)]
    exact hq
/-- [a new list for x in a tuple] -/
theorem ef_lcTF {α : Type} {j : Nat} (c : α → Y.D) {ts : List α} (g : α → List Y.D) (h : EP K B H0 Z tc E (.tup (ts.map c))) (imc : ∀ a ∈ ts, (c a).im = true) (hz : ts.length < 100000)
    (he : ∀ a ∈ ts, EF K B H0 Z te ((E.set j .no).set j (.val (c a))) (g a)) (im : ∀ a ∈ ts, imAll (g a) = true) :
    EF K B H0 Z (tLc (iTup K tc) (gName j) tYes te [j]) E (ts.map fun a => .lst (g a)) := fun σ H e Q q =>
  h σ H e _ fun v H1 e1 h1 => by
    have e' := e.ext e1
    cases h1 with
    | tup hq ha =>
      rename_i r xs
      have hl : xs.length = ts.length := by rw [ha.length, List.length_map]
      refine ⟨r, rfl, ⟨xs, hq⟩, fun p np => ?_⟩
      refine lc_tup (xs := xs) (fun i H' => Lcw K H1 p ((ts.take i).map fun a => .lst (g a)) H') ⟨np, Ex.new np, [], upd_same, by simpa using IsAll.nil⟩ (fun i H' _ w => sqT_ex w.ex hq) (fun i x H' hx w => ⟨wipe1 σ j _, ?_⟩) (fun H' w => ?_)
      · obtain ⟨d, hd1, hd2⟩ := ha.get hx
        obtain ⟨a, ha1, rfl⟩ := map_at hd1
        have hdm : a ∈ ts := List.mem_of_getElem? ha1
        have eb : Env K B H0 Z ((E.set j .no).set j (.val (c a))) ((wipe σ [j]).set j (some x)) H1 := (e'.setNo j).set hd2 (imc a hdm)
        show te _ _ _
        refine he a hdm _ _ (eb.ext w.ex) _ fun q4 vs H4 n4 e4 hq4 hy => ?_
        obtain ⟨acc, a1, a2, a3⟩ := lcw_addF w n4 e4 hq4 hy (im a hdm)
        refine ⟨acc, a1, by rw [a2, List.length_map, List.length_take, sizeLine_eq]; omega, ?_⟩
        rw [take_step ha1, List.map_append]
        exact a3
      · obtain ⟨acc, w1, w2⟩ := w.at_
        rw [hl, List.take_length] at w2
        exact q p acc H' (e1.back np) (e1.trans w.ex) w1 (w2.mono (hid_le _ _))
/-- s[:i], s a list or a tuple -/
def rSlS (K : PySem.W.Frag) : V → Option Int → Option Int → Hp → VK → Prop := fun x lo hi H Q => rSlL K x lo hi H Q ∨ rSlT K x lo hi H Q
theorem sl_seqY {X : Cx} : L2.SlR X (rSlS X.K) := L2.SlR.or sl_list sl_tup
theorem cut_to {xs : List V} {i : Nat} (h : i < xs.length) : cutV xs none (some (i : Int)) = xs.take i := by
  unfold cutV
  rw [HT.sIx_none, HT.sIx_nat, Nat.min_eq_left (by omega)]
  simp
theorem ep_slTo {s : D} {i : Nat} (hs : Seq s l) (h : EP K B H0 Z ta E s) (hi : EP K B H0 Z tb E (iD i)) (hlt : i < l.length) : ∃ s', Seq s' (l.take i) ∧ EP K B H0 Z (tSl (rSlS K) ta tNoPart (tPart tb)) E s' := by
  rcases hs with rfl | rfl
  · refine ⟨_, .inl rfl, fun σ H e Q q => h σ H e _ fun v H1 e1 h1 => hi σ H1 (e.ext e1) _ fun u H2 e2 h2 => ?_⟩
    cases h2
    obtain ⟨a, xs, rfl, hq, ha⟩ := h1.tup_inv
    have hl := ha.length
    have hcut := cut_to (xs := xs) (i := i) (by omega)
    refine ⟨(i : Int), rfl, .inr ⟨a, xs, rfl, sqT_ex e2 hq, fun z => ?_, fun p np => ?_⟩⟩
    · have := z.2
      rw [HT.sIx_nat] at this
      omega
    · rw [hcut]
      exact q _ _ ((e1.trans e2).trans (Ex.new np)) (.tup (SqT.of upd_same) (((ha.take i).mono e2).mono (Ex.new np)))
  · refine ⟨_, .inr rfl, fun σ H e Q q => h σ H e _ fun v H1 e1 h1 => hi σ H1 (e.ext e1) _ fun u H2 e2 h2 => ?_⟩
    cases h2
    obtain ⟨a, xs, rfl, hq, ha⟩ := h1.lst_inv
    have hl := ha.length
    have hcut := cut_to (xs := xs) (i := i) (by omega)
    refine ⟨(i : Int), rfl, .inl ⟨a, xs, rfl, sqL_ex e2 hq, fun p np => ?_⟩⟩
    rw [hcut]
    exact q _ _ ((e1.trans e2).trans (Ex.new np)) (.lst (SqL.of upd_same) (((ha.take i).mono e2).mono (Ex.new np)))
theorem r2_inS {a : Nat} {s : D} {f : List Nat} (hs : Seq s (f.map iD)) : R2d K (rIn K false) (iD a) s (.bl (decide (a ∈ f))) := by
  have h := r2_inI (K := K) (i := (a : Int)) (ns := zs f) (y := s) (by
    have e0 : f.map iD = (zs f).map D.int := by unfold zs; rw [List.map_map]; rfl
    rw [← e0]
    exact hs)
  have e : decide ((a : Int) ∈ zs f) = decide (a ∈ f) := by
    rw [Bool.eq_iff_iff, decide_eq_true_iff, decide_eq_true_iff]
    unfold zs
    constructor
    · intro h
      obtain ⟨y, h1, h2⟩ := List.mem_map.mp h
      have : y = a := by omega
      rw [← this]; exact h1
    · intro h
      exact List.mem_map.mpr ⟨a, h, rfl⟩
  rw [e] at h
  exact h
theorem Seq.at {s : D} {l : List D} (h : Seq s l) {i : Nat} {f : List Nat} (e : l = f.map iD) (hi : i < f.length) : R2d K (rIx K) s (iD i) (iD (f.getD i 0)) := by
  refine h.ix ?_
  rw [e, List.getElem?_map, List.getElem?_eq_getElem hi]
  simp [List.getD, List.getElem?_eq_getElem hi]
end
section
variable {P : Program} {w : World} {K : PySem.W.Frag} {mg : Str → Option Value} {base : Heap}
/-! ask_names -/
abbrev s_ask_names : Stmt := topS 40
abbrev N_ask_names : List Str := ["names", "things", "size", "place"]
theorem sc_ask_names : FnScope N_ask_names ["names", "things", "size"] (defScope s_ask_names) := ⟨rfl, rfl, rfl, by decide +kernel, rfl, by decide +kernel, by decide +kernel⟩
def p_anames (ds : List D) (d : D) : Prop := ∃ (n w : Nat) (names : List Nat) (s : D), n < 1000 ∧ KM.Nms n w names ∧ Seq s (names.map iD) ∧ ds = [s, iD n, iD w] ∧ d = .non
/-- names refused: what is handed in, the number of things, of names, the place -/
inductive BadN (n w : Nat) : D → Int → Prop
  | no {e : D} {ty : String} (h : e.tyN = some ty) (h2 : (ty == "list" || ty == "tuple") = false) : BadN n w e (-1)
  | len {s : D} {l : List D} (h : Seq s l) (h2 : l.length ≠ n) : BadN n w s (-1)
  | at_ {s e : D} {f : List Nat} {r : List D} (h : Seq s (f.map iD ++ e :: r)) (hl : f.length + r.length + 1 = n) (lt : ∀ x ∈ f, x < w) (he : e.tyN.isSome = true) (hb : isTh e w = false) : BadN n w s (f.length : Int)
def q_anames (CM : Addr) (ds : List D) (C' : Addr) (x : XF) : Prop := C' = CM ∧ ∃ (n w : Nat) (s : D) (k : Int), n < 1000 ∧ BadN n w s k ∧ ds = [s, iD n, iD w] ∧ x = xP k
theorem ok_ask_names {f CM fM : Addr} {fd : FuncData} (F : Fun K "ask_names" "ask_names" s_ask_names f fd) (T : Txt mg) (xM : XcK P K mg "BadNames" "bad names: place " CM fM) (c_is_thing : Cl P w K mg base 2 "is_thing" (Pure K p_is_thing)) :
    FnOk P w K mg base (L2.CX P w) 3 f fd ["names", "things", "size"] (PureE K p_anames (q_anames CM)) := by
  refine pureE_ok F sc_ask_names (fun ds h => by
    rcases h with ⟨d, _, _, _, _, _, _, _, rfl, _⟩ | ⟨_, _, _, _, _, _, _, _, _, rfl, _⟩ <;> rfl) (by decide) fun cdv A outer s H E hr => ?_
  have tk : L2.Takes (cxOf (L2.CX P w) P w K mg base N_ask_names "ask_names" (defScope s_ask_names) f cdv A outer s H E) (fun cls d _ H => E cls d H) := takes_of rfl rfl rfl rfl
  have po : PassesOwn (model P w) (cxOf (L2.CX P w) P w K mg base N_ask_names "ask_names" (defScope s_ask_names) f cdv A outer s H E).A (cxOf (L2.CX P w) P w K mg base N_ask_names "ask_names" (defScope s_ask_names) f cdv A outer s H E).env (cxOf (L2.CX P w) P w K mg base N_ask_names "ask_names" (defScope s_ask_names) f cdv A outer s H E).xe := passes_of rfl
  refine ⟨_, (pss_cons (ps_if (pw_or (pt_not (pt_val (pe_callB (r := rIsiT K) call_isiT (by rfl) T.isinstance (by decide +kernel) (pa_cons (pv 0) (pa_cons (pe_tup (pa_cons (pe_bltn (v := .ty "list") (by rfl) T.list (by decide +kernel) rfl) (pa_cons (pe_bltn (v := .ty "tuple") (by rfl) T.tuple (by decide +kernel) rfl) pa_nil))) pa_nil))))) (pw_or1 (pt_cmpR op_ne (pe_callB (r := rLen K) call_lenY (by rfl) T.len PySem.boot_len (pa_cons (pv 0) pa_nil)) (pv 1) (nomark _)))).pt
      (pss_one (ps_raise (by rfl) tk (pmk_exc (k := 0) xM.c (by decide) (hr.mono (by decide)) (by rfl) xM.m xM.s (pa_cons (pe_un un_neg pe_int) pa_nil)))) pss_nil)
    (pss_one (ps_for po rfl (pi_range1 (by rfl) T.range (pa_cons (pv 1) pa_nil)) (pg_name (i := 3) sc_ask_names.nd rfl (Or.inl rfl))
    (pss_one (ps_if (pt_not (pt_val (pe_cl c_is_thing hr (by decide) (by rfl) (pa_cons (pe_ix (r := rIx K) ix_seq (pv 0) (pv 3) (fun _ _ => rfl)) (pa_cons (pv 2) pa_nil)))))
      (pss_one (ps_raise (by rfl) tk (pmk_exc (k := 0) xM.c (by decide) (hr.mono (by decide)) (by rfl) xM.m xM.s (pa_cons (pv 3) pa_nil)))) pss_nil))))), ?_, ?_⟩
  · rintro ds d ⟨n, w', names, sq, hn, hN, hs, rfl, rfl⟩ De o
    obtain ⟨ty, ht, hty⟩ := hs.ty
    obtain ⟨_, _, k1, k2⟩ := kit_int (tyN_mem ht)
    have hlen : names.length = n := hN.len
    refine sd_seq (sd_if (et_or (et_not (et_B (ep_isiT (ep_var rfl) ht k1 k2))) fun _ => et_test (ep_op (x := iD n) (ep_is (ep_cb (ea_cons (ep_var rfl) ea_nil) hs.len) (by rw [List.length_map, hlen])) (ep_var (i := 1) (d := iD n) rfl) r2_neN)) (fun h => ?_) (fun h => sd_go ?_))
    · rw [hty] at h
      simp at h
    refine sd_forRP (n := (n : Int)) (fun _ => True) (ea_cons (ep_var (i := 1) (d := iD n) rfl) ea_nil) (by omega) (fun i => [.val sq, .val (iD n), .val (iD w'), .no]) rfl trivial (fun i hi _ => ?_) (fun _ => sd_end o)
    have hi' : i < names.length := by omega
    refine sd_if (et_not (et_B (ep_call (ea_cons (ep_op (ep_var (i := 0) (d := sq) rfl) (ep_var (i := 3) (d := iD i) rfl) (hs.at rfl hi')) (ea_cons (ep_var (i := 2) (d := iD w') rfl) ea_nil)) ⟨iD (names.getD i 0), w', rfl, rfl, rfl⟩))) (fun h => ?_) (fun h => sd_lp trivial (.eq (.eq (.eq (.no .nil)))))
    rw [isTh_nat, decide_eq_true (hN.at (by omega))] at h
    cases h
  · rintro ds C' x ⟨rfl, n, w', sq, k, hn, hb, rfl, rfl⟩ De o
    cases hb with
    | @no ty he hty =>
      obtain ⟨_, _, k1, k2⟩ := kit_int (tyN_mem he)
      refine sd_seq (sd_if (b := !(ty == "list" || ty == "tuple") || false) (et_or (et_not (et_B (ep_isiT (ep_var rfl) he k1 k2))) fun h => by rw [hty] at h; cases h) (fun h => ?_) (fun h => ?_))
      · exact sd_raiseF (ea_cons (ep_un (x := .int 1) ep_int r1_neg) ea_nil) (by decide) (wf_of o)
      · rw [hty] at h
        cases h
    | @len l hs hne =>
      obtain ⟨ty, ht, hty⟩ := hs.ty
      obtain ⟨_, _, k1, k2⟩ := kit_int (tyN_mem ht)
      refine sd_seq (sd_if (et_or (et_not (et_B (ep_isiT (ep_var rfl) ht k1 k2))) fun _ => et_test (ep_op (x := iD l.length) (ep_cb (ea_cons (ep_var rfl) ea_nil) hs.len) (ep_var (i := 1) (d := iD n) rfl) r2_neN)) (fun h => ?_) (fun h => ?_))
      · exact sd_raiseF (ea_cons (ep_un (x := .int 1) ep_int r1_neg) ea_nil) (by decide) (wf_of o)
      · rw [hty] at h
        simp at h
        exact absurd h hne
    | @at_ e f r hs hl lt he hbad =>
      obtain ⟨ty, ht, hty⟩ := hs.ty
      obtain ⟨_, _, k1, k2⟩ := kit_int (tyN_mem ht)
      refine sd_seq (sd_if (et_or (et_not (et_B (ep_isiT (ep_var rfl) ht k1 k2))) fun _ => et_test (ep_op (x := iD n) (ep_is (ep_cb (ea_cons (ep_var rfl) ea_nil) hs.len) (by rw [List.length_append, List.length_map, List.length_cons]; show D.int _ = D.int _; congr 1; omega)) (ep_var (i := 1) (d := iD n) rfl) r2_neN)) (fun h => ?_) (fun h => sd_go ?_))
      · rw [hty] at h
        simp at h
      refine sd_forRP (n := (n : Int)) (fun i => i ≤ f.length) (ea_cons (ep_var (i := 1) (d := iD n) rfl) ea_nil) (by omega) (fun i => [.val sq, .val (iD n), .val (iD w'), .no]) rfl (Nat.zero_le _) (fun i hi hp => ?_) (fun hp => by omega)
      by_cases hif : i < f.length
      · have e1 : (f.map iD ++ e :: r)[i]? = some (iD f[i]) := by rw [List.getElem?_append_left (by simpa using hif), List.getElem?_map, List.getElem?_eq_getElem hif]; rfl
        refine sd_if (et_not (et_B (ep_call (ea_cons (ep_op (ep_var (i := 0) (d := sq) rfl) (ep_var (i := 3) (d := iD i) rfl) (hs.ix e1)) (ea_cons (ep_var (i := 2) (d := iD w') rfl) ea_nil)) ⟨iD f[i], w', rfl, rfl, rfl⟩))) (fun h => ?_) (fun h => sd_lp hif (.eq (.eq (.eq (.no .nil)))))
        rw [isTh_nat, decide_eq_true (lt _ (List.getElem_mem hif))] at h
        cases h
      · have hie : i = f.length := by omega
        subst hie
        have e1 : (f.map iD ++ e :: r)[f.length]? = some e := by rw [List.getElem?_append_right (by simp)]; simp
        refine sd_if (et_not (et_B (ep_call (ea_cons (ep_op (ep_var (i := 0) (d := sq) rfl) (ep_var (i := 3) (d := iD f.length) rfl) (hs.ix e1)) (ea_cons (ep_var (i := 2) (d := iD w') rfl) ea_nil)) ⟨e, w', he, rfl, rfl⟩))) (fun h => sd_raiseF (ea_cons (ep_var rfl) ea_nil) (by omega) (wf_of o)) (fun h => ?_)
        rw [hbad] at h
        cases h
end
end Y
set_option Elab.async false
set_option linter.all false
set_option autoImplicit false
set_option maxRecDepth 100000
set_option maxHeartbeats 4000000
namespace Y
open PySem L2
theorem pe_scIY {X : Cx} {w : World} {elt tg iter : Expr} {ifs : List Expr} {scope : Scope} {own : List (PySem.Str × Nat)} {pos : Pos} {wi : TI} {g : TG} {tt : TT} {te : TE} (hw : X.w = w) (hc : X.calm = true) (hN : X.N.Nodup) (hi : PI X tg iter wi) (ok : BlkOk X.N X.env.scope scope own) (bl : BlkI X scope tg elt ifs g tt te)
    (hs : ∀ x, foldedSetIterable iter X.env x = pure x := by intro _; rfl) : PE X (.SetComp elt [⟨tg, iter, ifs, 0⟩] scope pos) (tScI w wi g tt te (own.map (·.2))) := hw ▸ pe_scI hc hN hi ok bl hs
theorem nm_in {n w : Nat} {names : List Nat} {L : List (List Nat)} (h : InOk n L) (hN : KM.Nms n w names) (w1 : 1 ≤ w) (w2 : w ≤ 60) : InOk w (L.map (KM.nm names)) := by
  refine ⟨w1, w2, by simpa using h.ne, by rw [List.length_map]; exact h.len, fun l hl => ?_, fun l hl => ?_, fun l hl => ?_⟩ <;> obtain ⟨m, hm, rfl⟩ := List.mem_map.mp hl
  · exact KM.nm_ne (h.lne m hm)
  · exact KM.nm_asc _ _
  · exact KM.nm_lt hN (h.lt m hm)
theorem sort_asc {ls : List (List Nat)} (h : ∀ l ∈ ls, KM.Asc l) : ls.map KM.sortN = ls := by
  have : ls.map KM.sortN = ls.map id := List.map_congr_left fun l hl => sortN_asc (h l hl)
  rw [this, List.map_id]
theorem InOk.ll {n : Nat} {L : List (List Nat)} (h : InOk n L) {l : List Nat} (hl : l ∈ L) : l.length ≤ 60 := by
  have := asc_len (h.asc l hl) (h.lt l hl)
  have := h.n2
  omega
section
variable {P : Program} {w : World} {K : PySem.W.Frag} {mg : Str → Option Value} {base : Heap}
/-! merged -/
abbrev s_merged : Stmt := topS 41
abbrev N_merged : List Str := ["family", "names", "size", "lot", "e"]
theorem sc_merged : FnScope N_merged ["family", "names", "size"] (defScope s_merged) := ⟨rfl, rfl, rfl, by decide +kernel, rfl, by decide +kernel, by decide +kernel⟩
def p_merged (C : Addr) (ds : List D) (d : D) : Prop := ∃ (n w : Nat) (L : List (List Nat)) (names : List Nat) (s : D), InOk n L ∧ KM.Nms n w names ∧ 1 ≤ w ∧ w ≤ 60 ∧ Seq s (names.map iD) ∧ ds = [famD C n L, s, iD w] ∧ d = famD C w (KM.leastLots (L.map (KM.nm names)))
def q_merged (C CN CM : Addr) (ds : List D) (C' : Addr) (x : XF) : Prop :=
  (C' = CN ∧ ∃ (n : Nat) (L : List (List Nat)) (s e : D), e.tyN.isSome = true ∧ (isInt e 1 = false ∨ ∃ m : Nat, e = iD m ∧ 60 < m) ∧ ds = [famD C n L, s, e] ∧ x = xW "size") ∨
  (C' = CM ∧ ∃ (n w : Nat) (L : List (List Nat)) (s : D) (k : Int), n < 1000 ∧ 1 ≤ w ∧ w ≤ 60 ∧ BadN n w s k ∧ ds = [famD C n L, s, iD w] ∧ x = xP k)
theorem ok_merged {f C CN fN CM : Addr} {fd : FuncData} {tM : Tok} (F : Fun K "merged" "merged" s_merged f fd) (T : Txt mg) (fc : FamC K mg C) (hM : mg "MOST_THINGS" = some (.int 60 tM)) (xN : XcS P K mg "BadNumber" "bad number: " CN fN) (c_is_integer : Cl P w K mg base 1 "is_integer" (Pure K p_is_integer))
    (c_ask_names : ClX P w K mg base 3 "ask_names" (PureE K p_anames (q_anames CM))) (c_FamilyG : ClI P w K mg base 5 C "Family" (InitP K C p_initG)) : FnOk P w K mg base (L2.CX P w) 7 f fd ["family", "names", "size"] (PureE K (p_merged C) (q_merged C CN CM)) := by
  refine pureE_ok F sc_merged (fun ds h => by
    rcases h with ⟨d, _, _, _, _, _, _, _, _, _, _, rfl, _⟩ | ⟨_, _, ⟨_, _, _, _, _, _, _, rfl, _⟩ | ⟨_, _, _, _, _, _, _, _, _, _, rfl, _⟩⟩ <;> rfl) (by decide) fun cdv A outer s H E hr => ?_
  have tk : L2.Takes (cxOf (L2.CX P w) P w K mg base N_merged "merged" (defScope s_merged) f cdv A outer s H E) (fun cls d _ H => E cls d H) := takes_of rfl rfl rfl rfl
  refine ⟨_, (pss_cons (ps_if (pw_or (pt_not (pt_val (pe_cl c_is_integer hr (by decide) (by rfl) (pa_cons (pv 2) (pa_cons pe_int pa_nil))))) (pw_or1 (pt_cmpR op_gt (pv 2) (pe_glob (v := .int 60) (by rfl) hM ⟨_, rfl⟩) (nomark _)))).pt
      (pss_one (ps_raise (by rfl) tk (pmk_exs (k := 0) xN.c (by decide) (hr.mono (by decide)) (by rfl) xN.m xN.s (pa_cons pe_str pa_nil)))) pss_nil)
    (pss_cons (ps_expr (pe_clX c_ask_names hr (by decide) (by rfl) tk (pa_cons (pv 1) (pa_cons (pe_fld (pv 0) rfl) (pa_cons (pv 2) pa_nil)))))
    (pss_one (ps_ret (pe_clI c_FamilyG hr (by decide) (by rfl) (pa_cons (pv 2) (pa_cons (pe_lc (own := [("lot", 3)]) (g := gName 3) rfl sc_merged.nd (pi_tup (pe_fld (pv 0) rfl)) (blkOk_by (N := N_merged) (sc := defScope s_merged) (by decide +kernel)) (fun _ _ _ _ _ => pg_name (i := 3) sc_merged.nd rfl (Or.inl rfl)) (fun _ _ _ _ _ => pts_nil)
      (fun _ _ _ _ _ => (pe_callB (r := rSortedSet w) (cr_sortedSet rfl) (by rfl) T.sorted (by decide +kernel) (pa_cons (pe_scIY (w := w) (own := [("e", 4)]) (g := gName 4) rfl rfl sc_merged.nd (pi_tupY (K := K) rfl (pv 3)) (blkOk_by (N := N_merged) (sc := relS (lcE (argE 1 (stE (at_ 2 (defBody s_merged))))) (defScope s_merged)) (by decide +kernel)) ⟨fun _ _ _ _ _ => pg_name (i := 4) sc_merged.nd rfl (Or.inl rfl), fun _ _ _ _ _ => pts_nil, fun _ _ _ _ _ => (pe_ix (r := rIx K) ix_seq (pv 1) (pv 4) (fun _ _ => rfl))⟩) pa_nil)))) pa_nil))))))), ?_, ?_⟩
  · rintro ds d ⟨n, w', L, names, sq, hi, hN, hw1, hw2, hs, rfl, rfl⟩ De o
    have hn2 := hi.n2
    have hl0 := hi.len
    have e : isInt (iD w') 1 = true := by simp [isInt, iD]; omega
    have e2 : decide ((60 : Int) < (w' : Int)) = false := decide_eq_false (by omega)
    refine sd_seq (sd_if (et_or (et_not (et_B (ep_call (ea_cons (ep_var (i := 2) (d := iD w') rfl) (ea_cons ep_int ea_nil)) ⟨iD w', 1, rfl, rfl, rfl⟩))) fun _ => et_test (ep_op (ep_var (i := 2) (d := iD w') rfl) ep_int (r2_cmp (g := fun i j => decide (j < i))))) (fun h => by rw [e, e2] at h; cases h) (fun h => sd_go ?_))
    refine sd_seq (sd_drop (d := .non) (ep_callES (ea_cons (ep_var (i := 1) (d := sq) rfl) (ea_cons (ep_fld (ep_var (i := 0) (d := famD C n L) rfl) fc.ob.cl fc.nt rfl) (ea_cons (ep_var (i := 2) (d := iD w') rfl) ea_nil))) ⟨n, w', names, sq, by omega, hN, hs, rfl, rfl⟩) (sd_go ?_))
    have hin := nm_in hi hN hw1 hw2
    refine sd_ret (ep_is (ep_make (ns := ["things", "lots"]) (m := [iD w', tsD (KM.leastLots ((L.map (KM.nm names)).map KM.sortN))]) (ea_cons (ep_var (i := 2) (d := iD w') rfl) (ea_cons (EF.p (ef_is (ef_lcTF (j := 3) (c := tD) (ts := L) (fun l => (KM.nm names l).map iD) (ep_fld (ep_var (i := 0) (d := famD C n L) rfl) fc.ob.cl fc.nl rfl) (fun _ _ => tD_im _) (by omega) (fun l hl => ?_) (fun _ _ => imAll_nD _)) (m := (L.map (KM.nm names)).map nD) (by rw [List.map_map]; rfl))) ea_nil)) ⟨w', L.map (KM.nm names), nD, _, hin.g, .inr rfl, .inr rfl, rfl, rfl, rfl⟩) (by rw [sort_asc hin.asc]; rfl)) o.rt
    have := hi.ll hl
    exact ef_sortSc (j := 4) (ts := l) (fun t => names.getD t 0) (ep_is (ep_var (i := 3) (d := tD l) rfl) (tD_eq l)) (by omega) (fun t ht => ep_op (ep_var (i := 1) (d := sq) rfl) (ep_var (i := 4) (d := iD t) rfl) (hs.at rfl (by rw [hN.len]; exact hi.lt l hl t ht)))
  · rintro ds C' x hq De o
    rcases hq with ⟨rfl, n, L, sq, e, he, hb, rfl, rfl⟩ | ⟨rfl, n, w', L, sq, k, hn, hw1, hw2, hb, rfl, rfl⟩
    · have rs : ∀ {D' : Ends}, SD K [] H (fun _ => True) _ D' (entry N_merged [famD C n L, sq, e]) := fun {D'} => sd_raiseS (De := D') (W := fun cls d _ H => E cls d H) (C := C') (n := "size") (ea_cons ep_str ea_nil) (by decide) (wf_of o)
      rcases hb with hb | ⟨m, rfl, hm⟩
      · refine sd_seq (sd_if (b := !isInt e 1 || false) (et_or (et_not (et_B (ep_call (ea_cons (ep_var (i := 2) (d := e) rfl) (ea_cons ep_int ea_nil)) ⟨e, 1, he, rfl, rfl⟩))) fun h => by rw [hb] at h; cases h) (fun h => rs) (fun h => ?_))
        rw [hb] at h
        cases h
      · have e2 : decide ((60 : Int) < (m : Int)) = true := decide_eq_true (by omega)
        refine sd_seq (sd_if (et_or (et_not (et_B (ep_call (ea_cons (ep_var (i := 2) (d := iD m) rfl) (ea_cons ep_int ea_nil)) ⟨iD m, 1, rfl, rfl, rfl⟩))) fun _ => et_test (ep_op (ep_var (i := 2) (d := iD m) rfl) ep_int (r2_cmp (g := fun i j => decide (j < i))))) (fun h => rs) (fun h => ?_))
        rw [e2] at h
        simp at h
    · have e : isInt (iD w') 1 = true := by simp [isInt, iD]; omega
      have e2 : decide ((60 : Int) < (w' : Int)) = false := decide_eq_false (by omega)
      refine sd_seq (sd_if (et_or (et_not (et_B (ep_call (ea_cons (ep_var (i := 2) (d := iD w') rfl) (ea_cons ep_int ea_nil)) ⟨iD w', 1, rfl, rfl, rfl⟩))) fun _ => et_test (ep_op (ep_var (i := 2) (d := iD w') rfl) ep_int (r2_cmp (g := fun i j => decide (j < i))))) (fun h => by rw [e, e2] at h; cases h) (fun h => sd_go ?_))
      exact sd_seq (sd_dropR (er_callE (ea_cons (ep_var (i := 1) (d := sq) rfl) (ea_cons (ep_fld (ep_var (i := 0) (d := famD C n L) rfl) fc.ob.cl fc.nt rfl) (ea_cons (ep_var (i := 2) (d := iD w') rfl) ea_nil))) ⟨rfl, n, w', sq, k, hn, hb, rfl, rfl⟩ (wf_of o)))
/-! renamed -/
abbrev s_renamed : Stmt := topS 45
abbrev N_renamed : List Str := ["family", "names", "place", "lot", "e"]
theorem sc_renamed : FnScope N_renamed ["family", "names"] (defScope s_renamed) := ⟨rfl, rfl, rfl, by decide +kernel, rfl, by decide +kernel, by decide +kernel⟩
def ren (names l : List Nat) : List Nat := l.map fun t => names.getD t 0
def p_renamed (C : Addr) (ds : List D) (d : D) : Prop := ∃ (n : Nat) (L : List (List Nat)) (names : List Nat) (s : D), InOk n L ∧ KM.Nms n n names ∧ names.Nodup ∧ Seq s (names.map iD) ∧ ds = [famD C n L, s] ∧ d = famD C n (KM.leastLots (L.map (KM.nm names)))
def q_renamed (C CM : Addr) (ds : List D) (C' : Addr) (x : XF) : Prop := C' = CM ∧ ∃ (n : Nat) (L : List (List Nat)) (s : D) (k : Int), n < 1000 ∧ ds = [famD C n L, s] ∧ x = xP k ∧
  (BadN n n s k ∨ ∃ (f : List Nat) (e : Nat) (r : List Nat), KM.Nms n n (f ++ e :: r) ∧ f.Nodup ∧ e ∈ f ∧ Seq s ((f ++ e :: r).map iD) ∧ k = (f.length : Int))
theorem ren_nd {n : Nat} {names l : List Nat} (hN : KM.Nms n n names) (nd : names.Nodup) (a : l.Nodup) (lt : ∀ x ∈ l, x < n) : (ren names l).Nodup := by
  unfold ren
  refine List.pairwise_map.mpr (List.Pairwise.imp_of_mem (fun {x y} hx hy hne => ?_) a)
  intro z
  have hx' : x < names.length := by rw [hN.len]; exact lt x hx
  have hy' : y < names.length := by rw [hN.len]; exact lt y hy
  have e1 : names.getD x 0 = names[x] := by simp [List.getD, List.getElem?_eq_getElem hx']
  have e2 : names.getD y 0 = names[y] := by simp [List.getD, List.getElem?_eq_getElem hy']
  rw [e1, e2] at z
  rcases Nat.lt_trichotomy x y with h | h | h
  · exact (List.pairwise_iff_getElem.mp nd) x y hx' hy' h z
  · exact hne h
  · exact (List.pairwise_iff_getElem.mp nd) y x hy' hx' h z.symm
theorem ok_renamed {f C CM fM : Addr} {fd : FuncData} (F : Fun K "renamed" "renamed" s_renamed f fd) (T : Txt mg) (fc : FamC K mg C) (xM : XcK P K mg "BadNames" "bad names: place " CM fM) (c_ask_names : ClX P w K mg base 3 "ask_names" (PureE K p_anames (q_anames CM))) (c_FamilyG : ClI P w K mg base 5 C "Family" (InitP K C p_initG)) :
    FnOk P w K mg base (L2.CX P w) 7 f fd ["family", "names"] (PureE K (p_renamed C) (q_renamed C CM)) := by
  refine pureE_ok F sc_renamed (fun ds h => by
    rcases h with ⟨d, _, _, _, _, _, _, _, _, rfl, _⟩ | ⟨_, _, _, _, _, _, _, _, rfl, _⟩ <;> rfl) (by decide) fun cdv A outer s H E hr => ?_
  have tk : L2.Takes (cxOf (L2.CX P w) P w K mg base N_renamed "renamed" (defScope s_renamed) f cdv A outer s H E) (fun cls d _ H => E cls d H) := takes_of rfl rfl rfl rfl
  have po : PassesOwn (model P w) (cxOf (L2.CX P w) P w K mg base N_renamed "renamed" (defScope s_renamed) f cdv A outer s H E).A (cxOf (L2.CX P w) P w K mg base N_renamed "renamed" (defScope s_renamed) f cdv A outer s H E).env (cxOf (L2.CX P w) P w K mg base N_renamed "renamed" (defScope s_renamed) f cdv A outer s H E).xe := passes_of rfl
  refine ⟨_, (pss_cons (ps_expr (pe_clX c_ask_names hr (by decide) (by rfl) tk (pa_cons (pv 1) (pa_cons (pe_fld (pv 0) rfl) (pa_cons (pe_fld (pv 0) rfl) pa_nil)))))
    (pss_cons (ps_for po rfl (pi_range1 (by rfl) T.range (pa_cons (pe_callB (r := rLen K) call_lenY (by rfl) T.len PySem.boot_len (pa_cons (pv 1) pa_nil)) pa_nil)) (pg_name (i := 2) sc_renamed.nd rfl (Or.inl rfl))
    (pss_one (ps_if (pt_cmpR (r := rIn K false) op_in_seq (pe_ix (r := rIx K) ix_seq (pv 1) (pv 2) (fun _ _ => rfl)) (pe_slice (r := rSlS K) sl_seqY (pv 1) po_none (po_some (pv 2))) rfl)
      (pss_one (ps_raise (by rfl) tk (pmk_exc (k := 0) xM.c (by decide) (hr.mono (by decide)) (by rfl) xM.m xM.s (pa_cons (pv 2) pa_nil)))) pss_nil)))
    (pss_one (ps_ret (pe_clI c_FamilyG hr (by decide) (by rfl) (pa_cons (pe_fld (pv 0) rfl) (pa_cons (pe_lc (own := [("lot", 3)]) (g := gName 3) rfl sc_renamed.nd (pi_tup (pe_fld (pv 0) rfl)) (blkOk_by (N := N_renamed) (sc := defScope s_renamed) (by decide +kernel)) (fun _ _ _ _ _ => pg_name (i := 3) sc_renamed.nd rfl (Or.inl rfl)) (fun _ _ _ _ _ => pts_nil)
      (fun _ _ _ _ _ => (pe_lc (own := [("e", 4)]) (g := gName 4) rfl sc_renamed.nd (pi_tupY (K := K) rfl (pv 3)) (blkOk_by (N := N_renamed) (sc := relS (lcE (argE 1 (stE (at_ 2 (defBody s_renamed))))) (defScope s_renamed)) (by decide +kernel)) (fun _ _ _ _ _ => pg_name (i := 4) sc_renamed.nd rfl (Or.inl rfl)) (fun _ _ _ _ _ => pts_nil) (fun _ _ _ _ _ => (pe_ix (r := rIx K) ix_seq (pv 1) (pv 4) (fun _ _ => rfl)))))) pa_nil))))))), ?_, ?_⟩
  · rintro ds d ⟨n, L, names, sq, hi, hN, nd, hs, rfl, rfl⟩ De o
    have hn2 := hi.n2
    have hl0 := hi.len
    have hlen := hN.len
    refine sd_seq (sd_drop (d := .non) (ep_callES (ea_cons (ep_var (i := 1) (d := sq) rfl) (ea_cons (ep_fld (ep_var (i := 0) (d := famD C n L) rfl) fc.ob.cl fc.nt rfl) (ea_cons (ep_fld (ep_var (i := 0) (d := famD C n L) rfl) fc.ob.cl fc.nt rfl) ea_nil))) ⟨n, n, names, sq, by omega, hN, hs, rfl, rfl⟩) (sd_go ?_))
    refine sd_seq (sd_forRP (n := (n : Int)) (fun _ => True) (ea_cons (ep_is (ep_cb (ea_cons (ep_var (i := 1) (d := sq) rfl) ea_nil) hs.len) (by rw [List.length_map, hlen])) ea_nil) (by omega) (fun i => [.val (famD C n L), .val sq, .no, .no, .no]) rfl trivial (fun i hi' _ => ?_) (fun _ => sd_go ?_))
    · have hil : i < names.length := by omega
      obtain ⟨s', hs', es'⟩ := ep_slTo (K := K) (B := []) (H0 := H) (Z := fun _ => True) (E := [.val (famD C n L), .val sq, .val (.int i), .no, .no]) (ta := tVar 1) (tb := tVar 2) hs (ep_var rfl) (ep_var (d := iD i) rfl) (by rw [List.length_map]; exact hil)
      rw [← List.map_take] at hs'
      refine sd_if (et_test (ep_op (ep_op (ep_var (i := 1) (d := sq) rfl) (ep_var (i := 2) (d := iD i) rfl) (hs.at rfl hil)) es' (r2_inS hs'))) (fun h => ?_) (fun h => sd_lp trivial (.eq (.eq (.no (.eq (.eq .nil))))))
      have hx : names.getD i 0 = names[i] := by simp [List.getD, List.getElem?_eq_getElem hil]
      rw [hx] at h
      exact absurd (of_decide_eq_true h) (nodup_take nd (List.getElem?_eq_getElem hil))
    · have hG : InG n (L.map (ren names)) := by
        refine ⟨hi.n1, hn2, by simpa using hi.ne, by rw [List.length_map]; exact hi.len, fun l hl => ?_, fun l hl => ?_, fun l hl => ?_⟩ <;> obtain ⟨m, hm, rfl⟩ := List.mem_map.mp hl
        · unfold ren; simpa using hi.lne m hm
        · exact ren_nd hN nd ((hi.asc m hm).imp fun h => Nat.ne_of_lt h) (hi.lt m hm)
        · intro x hx
          obtain ⟨t, ht, rfl⟩ := List.mem_map.mp hx
          exact hN.at (hi.lt m hm t ht)
      have hsrt : (L.map (ren names)).map KM.sortN = L.map (KM.nm names) := by
        rw [List.map_map]
        refine List.map_congr_left fun l hl => ?_
        exact (KM.img_nd (ren_nd hN nd ((hi.asc l hl).imp fun h => Nat.ne_of_lt h) (hi.lt l hl))).symm
      refine sd_ret (ep_is (ep_make (ns := ["things", "lots"]) (m := [iD n, tsD (KM.leastLots ((L.map (ren names)).map KM.sortN))]) (ea_cons (ep_fld (ep_var (i := 0) (d := famD C n L) rfl) fc.ob.cl fc.nt rfl) (ea_cons (EF.p (ef_is (ef_lcTF (j := 3) (c := tD) (ts := L) (fun l => (ren names l).map iD) (ep_fld (ep_var (i := 0) (d := famD C n L) rfl) fc.ob.cl fc.nl rfl) (fun _ _ => tD_im _) (by omega) (fun l hl => ?_) (fun _ _ => imAll_nD _)) (m := (L.map (ren names)).map nD) (by rw [List.map_map]; rfl))) ea_nil)) ⟨n, L.map (ren names), nD, _, hG, .inr rfl, .inr rfl, rfl, rfl, rfl⟩) (by rw [hsrt]; rfl)) o.rt
      have := hi.ll hl
      exact ef_is (ef_lcT1 (j := 4) (c := iD) (ts := l) (fun t => iD (names.getD t 0)) (ep_is (ep_var (i := 3) (d := tD l) rfl) (tD_eq l)) (fun _ _ => rfl) (by omega) (fun t ht => ep_op (ep_var (i := 1) (d := sq) rfl) (ep_var (i := 4) (d := iD t) rfl) (hs.at rfl (by rw [hN.len]; exact hi.lt l hl t ht))) (fun _ _ => rfl)) (by unfold ren; rw [List.map_map]; rfl)
  · rintro ds C' x ⟨rfl, n, L, sq, k, hn, rfl, rfl, hb⟩ De o
    rcases hb with hb | ⟨f', e, r, hN, nd, hm, hs, rfl⟩
    · exact sd_seq (sd_dropR (er_callE (ea_cons (ep_var (i := 1) (d := sq) rfl) (ea_cons (ep_fld (ep_var (i := 0) (d := famD C n L) rfl) fc.ob.cl fc.nt rfl) (ea_cons (ep_fld (ep_var (i := 0) (d := famD C n L) rfl) fc.ob.cl fc.nt rfl) ea_nil))) ⟨rfl, n, n, sq, k, hn, hb, rfl, rfl⟩ (wf_of o)))
    · have hlen := hN.len
      have hfl : f'.length < n := by rw [← hlen]; simp
      refine sd_seq (sd_drop (d := .non) (ep_callES (ea_cons (ep_var (i := 1) (d := sq) rfl) (ea_cons (ep_fld (ep_var (i := 0) (d := famD C n L) rfl) fc.ob.cl fc.nt rfl) (ea_cons (ep_fld (ep_var (i := 0) (d := famD C n L) rfl) fc.ob.cl fc.nt rfl) ea_nil))) ⟨n, n, f' ++ e :: r, sq, hn, hN, hs, rfl, rfl⟩) (sd_go ?_))
      refine sd_seq (sd_forRP (n := (n : Int)) (fun i => i ≤ f'.length) (ea_cons (ep_is (ep_cb (ea_cons (ep_var (i := 1) (d := sq) rfl) ea_nil) hs.len) (by rw [List.length_map, hlen])) ea_nil) (by omega) (fun i => [.val (famD C n L), .val sq, .no, .no, .no]) rfl (Nat.zero_le _) (fun i hi' hp => ?_) (fun hp => by omega))
      have hil : i < (f' ++ e :: r).length := by omega
      obtain ⟨s', hs', es'⟩ := ep_slTo (K := K) (B := []) (H0 := H) (Z := fun _ => True) (E := [.val (famD C n L), .val sq, .val (.int i), .no, .no]) (ta := tVar 1) (tb := tVar 2) hs (ep_var rfl) (ep_var (d := iD i) rfl) (by rw [List.length_map]; exact hil)
      rw [← List.map_take] at hs'
      have hx : (f' ++ e :: r).getD i 0 = (f' ++ e :: r)[i] := by simp [List.getD, List.getElem?_eq_getElem hil]
      refine sd_if (et_test (ep_op (ep_op (ep_var (i := 1) (d := sq) rfl) (ep_var (i := 2) (d := iD i) rfl) (hs.at rfl hil)) es' (r2_inS hs'))) (fun h => ?_) (fun h => ?_)
      · have hie : i = f'.length := by
          refine Classical.byContradiction fun hne => ?_
          have hlt : i < f'.length := by omega
          have h2 : (f' ++ e :: r)[i] = f'[i] := List.getElem_append_left hlt
          have h3 : (f' ++ e :: r).take i = f'.take i := by rw [List.take_append_of_le_length (by omega)]
          rw [hx, h2, h3] at h
          exact nodup_take nd (List.getElem?_eq_getElem hlt) (of_decide_eq_true h)
        subst hie
        exact sd_raiseF (ea_cons (ep_var (i := 2) (d := .int (f'.length : Int)) rfl) ea_nil) (by omega) (wf_of o)
      · by_cases hlt : i < f'.length
        · exact sd_lp hlt (.eq (.eq (.no (.eq (.eq .nil)))))
        · have hie : i = f'.length := by omega
          subst hie
          have h2 : (f' ++ e :: r)[f'.length] = e := by simp
          have h3 : (f' ++ e :: r).take f'.length = f' := by simp
          rw [hx, h2, h3] at h
          exact absurd hm (of_decide_eq_false h)
end
end Y
set_option Elab.async false
set_option linter.all false
set_option autoImplicit false
set_option maxRecDepth 100000
set_option maxHeartbeats 4000000
namespace Y
open PySem L2
section
variable {K : PySem.W.Frag} {B : List Addr} {H0 : Hp} {Z : Hp → Prop} {E : List Slot} {ta : TE}
theorem ep_tupRg1 {n : Nat} (ha : EP K B H0 Z ta E (iD n)) (hz : n ≤ 100000) : EP K B H0 Z (tTupRg (tRg1 ta)) E (tD (List.range n)) := fun σ H e Q q =>
  ha σ H e _ fun v H1 e1 h1 => by
    cases h1
    refine ⟨(n : Int), rfl, RgOk.of_le (by omega) (by omega) (by omega) (by omega), fun p np => q _ _ (e1.trans (Ex.new np)) ?_⟩
    rw [tD_eq]
    refine .tup (SqT.of upd_same) ?_
    have h := isAll_rg (K := K) (H := upd H1 p (.tup (rgV 0 (n : Int)))) 0 (n : Int)
    have e0 : ((List.range ((n : Int) - 0).toNat).map fun (i : Nat) => D.int ((0 : Int) + (i : Int))) = (List.range n).map iD := by
      have : ((n : Int) - 0).toNat = n := by omega
      rw [this]
      refine List.map_congr_left fun i _ => ?_
      show D.int ((0 : Int) + (i : Int)) = D.int (i : Int)
      rw [Int.zero_add]
    rw [e0] at h
    exact h
end
section
variable {P : Program} {w : World} {K : PySem.W.Frag} {mg : Str → Option Value} {base : Heap}
/-! ask_some -/
abbrev s_ask_some : Stmt := topS 42
abbrev N_ask_some : List Str := ["families"]
theorem sc_ask_some : FnScope N_ask_some ["families"] (defScope s_ask_some) := ⟨rfl, rfl, rfl, by decide +kernel, rfl, by decide +kernel, by decide +kernel⟩
def p_asome (C : Addr) (ds : List D) (d : D) : Prop := ∃ rows : Rws, rows ≠ [] ∧ rows.length < 1000 ∧ ds = [.tup (fms C rows)] ∧ d = .non
def q_asome (C CN CF : Addr) (ds : List D) (C' : Addr) (x : XF) : Prop := (C' = CN ∧ ds = [.tup []] ∧ x = xW "families") ∨
  (C' = CF ∧ ∃ (rows : Rws) (e : D) (ty : String) (r : List D), rows.length < 1000 ∧ r.length < 1000 ∧ e.tyN = some ty ∧ ds = [.tup (fms C rows ++ e :: r)] ∧ x = xP (rows.length : Int))
theorem ok_ask_some {f C CN fN CF : Addr} {fd : FuncData} (F : Fun K "ask_some" "ask_some" s_ask_some f fd) (T : Txt mg) (fc : FamC K mg C) (xN : XcS P K mg "BadNumber" "bad number: " CN fN) (c_family_list : ClX P w K mg base 2 "family_list" (PureE K (p_flist C) (q_flist C CF))) :
    FnOk P w K mg base (L2.CX P w) 3 f fd ["families"] (PureE K (p_asome C) (q_asome C CN CF)) := by
  refine pureE_ok F sc_ask_some (fun ds h => by
    rcases h with ⟨d, _, _, _, rfl, _⟩ | ⟨_, _, ⟨_, rfl, _⟩ | ⟨_, _, _, _, _, _, _, _, rfl, _⟩⟩ <;> rfl) (by decide) fun cdv A outer s H E hr => ?_
  have tk : L2.Takes (cxOf (L2.CX P w) P w K mg base N_ask_some "ask_some" (defScope s_ask_some) f cdv A outer s H E) (fun cls d _ H => E cls d H) := takes_of rfl rfl rfl rfl
  refine ⟨_, (pss_cons (ps_if (pt_cmpR op_eq (pe_callB (r := rLen K) call_lenY (by rfl) T.len PySem.boot_len (pa_cons (pv 0) pa_nil)) pe_int (nomark _))
      (pss_one (ps_raise (by rfl) tk (pmk_exs (k := 0) xN.c (by decide) (hr.mono (by decide)) (by rfl) xN.m xN.s (pa_cons pe_str pa_nil)))) pss_nil)
    (pss_one (ps_expr (pe_clX c_family_list hr (by decide) (by rfl) tk (pa_cons (pv 0) pa_nil))))), ?_, ?_⟩
  · rintro ds d ⟨rows, hne, hz, rfl, rfl⟩ De o
    have h0 : rows.length ≠ 0 := fun z => hne (List.length_eq_zero_iff.mp z)
    refine sd_seq (sd_if (et_test (ep_op (x := iD rows.length) (ep_is (ep_cb (ea_cons (ep_var (i := 0) (d := .tup (fms C rows)) rfl) ea_nil) rc_lenT) (by rw [fms_len])) ep_n0 r2_eqN)) (fun h => absurd (by simpa using h) hne) (fun h => sd_go ?_))
    exact sd_drop (ep_callES (ea_cons (ep_var (i := 0) (d := .tup (fms C rows)) rfl) ea_nil) ⟨rows, _, hz, .inl rfl, rfl, rfl⟩) (sd_end o)
  · rintro ds C' x hq De o
    rcases hq with ⟨rfl, rfl, rfl⟩ | ⟨rfl, rows, e, ty, r, hz, hz2, he, rfl, rfl⟩
    · refine sd_seq (sd_if (et_test (ep_op (x := iD 0) (ep_cb (ea_cons (ep_var (i := 0) (d := .tup []) rfl) ea_nil) rc_lenT) ep_n0 r2_eqN)) (fun h => ?_) (fun h => by cases h))
      exact sd_raiseS (n := "families") (ea_cons ep_str ea_nil) (by decide) (wf_of o)
    · refine sd_seq (sd_if (et_test (ep_op (x := iD (rows.length + r.length + 1)) (ep_is (ep_cb (ea_cons (ep_var (i := 0) (d := .tup (fms C rows ++ e :: r)) rfl) ea_nil) rc_lenT) (by rw [List.length_append, fms_len, List.length_cons]; rfl)) ep_n0 r2_eqN)) (fun h => by simp at h) (fun h => sd_go ?_))
      exact sd_dropR (er_callE (ea_cons (ep_var (i := 0) (d := .tup (fms C rows ++ e :: r)) rfl) ea_nil) ⟨rfl, .inr ⟨rows, e, ty, r, _, hz, hz2, he, .inl rfl, rfl, rfl⟩⟩ (wf_of o))
def ones (k : Nat) : List (List Nat) := (List.range k).map fun e => [e]
/-- what beside, both hand back -/
def p_star (C : Addr) (lf : Nat → List (List Nat)) (ds : List D) (d : D) : Prop := ∃ rows : Rws, rows ≠ [] ∧ InOk rows.length (lf rows.length) ∧ CallOk rows.length (KM.leastLots (lf rows.length)) rows ∧ ds = [.tup (fms C rows)] ∧ d = putD C (KM.leastLots (lf rows.length)) rows
def q_star (C CN CF : Addr) (lf : Nat → List (List Nat)) (ds : List D) (C' : Addr) (x : XF) : Prop := q_asome C CN CF ds C' x ∨
  (C' = CN ∧ ∃ rows : Rws, rows ≠ [] ∧ rows.length < 1000 ∧ InOk rows.length (lf rows.length) ∧ 60 < sizeR rows ∧ ds = [.tup (fms C rows)] ∧ x = xW "things")
theorem star_len {C CN CF : Addr} {lf : Nat → List (List Nat)} : ∀ ds, ((∃ d, p_star C lf [.tup ds] d) ∨ ∃ C' n, q_star C CN CF lf [.tup ds] C' n) → ds.length ≤ 100000 := fun ds h => by
  have tup : ∀ {l : List D}, [D.tup ds] = [D.tup l] → ds = l := fun e => by
    have := (List.cons.inj e).1
    injection this
  rcases h with ⟨d, rows, _, _, h, e, _⟩ | ⟨C', n, (⟨_, e, _⟩ | ⟨_, rows, e', ty, r, h1, h2, _, e, _⟩) | ⟨_, rows, _, h, _, _, e, _⟩⟩
  · rw [tup e, fms_len]; have := h.n3; omega
  · rw [tup e]; simp
  · rw [tup e, List.length_append, fms_len, List.length_cons]; omega
  · rw [tup e, fms_len]; omega
/-! beside -/
abbrev s_beside : Stmt := topS 43
abbrev N_beside : List Str := ["families", "size", "e"]
theorem sc_beside : FnScope N_beside ["families"] (defScope s_beside) := ⟨rfl, rfl, rfl, by decide +kernel, rfl, by decide +kernel, by decide +kernel⟩
theorem ok_beside {f C CN CF : Addr} {fd : FuncData} (F : Fun K "beside" "beside" s_beside f fd) (T : Txt mg) (hbd : ∀ us rest : List Value, us.length = ([] : List Str).length → bindArgs fd ⟨us ++ rest, []⟩ = (newTuple rest >>= fun t => pure (([] : List Str).zip us ++ [(("families" : Str), t)])))
    (c_ask_some : ClX P w K mg base 3 "ask_some" (PureE K (p_asome C) (q_asome C CN CF))) (c_Family : ClI P w K mg base 5 C "Family" (InitP K C p_init)) (c_call : ClC P w K mg base 7 C (PureE K (p_fcall C) (q_fcall C CN))) :
    FnR P w K mg base (L2.CX P w) 8 f (PureE K (fun ds d => p_star C ones [.tup ds] d) (fun ds C' x => q_star C CN CF ones [.tup ds] C' x)) := by
  refine starE_ok (pv := "families") F sc_beside hbd star_len (by decide) fun cdv A outer s H E hr => ?_
  have tk : L2.Takes (cxOf (L2.CX P w) P w K mg base N_beside "beside" (defScope s_beside) f cdv A outer s H E) (fun cls d _ H => E cls d H) := takes_of rfl rfl rfl rfl
  refine ⟨_, (pss_cons (ps_expr (pe_clX c_ask_some hr (by decide) (by rfl) tk (pa_cons (pv 0) pa_nil)))
    (pss_cons (ps_set (i := 1) sc_beside.nd rfl (Or.inl rfl) (pe_callB (r := rLen K) call_lenY (by rfl) T.len PySem.boot_len (pa_cons (pv 0) pa_nil)))
    (pss_one (ps_ret (pe_clC c_call hr (by decide) tk (pe_clI c_Family hr (by decide) (by rfl) (pa_cons (pv 1) (pa_cons (pe_lc (own := [("e", 2)]) (g := gName 2) rfl sc_beside.nd (pi_range1 (by rfl) T.range (pa_cons (pv 1) pa_nil)) (blkOk_by (N := N_beside) (sc := defScope s_beside) (by decide +kernel)) (fun _ _ _ _ _ => pg_name (i := 2) sc_beside.nd rfl (Or.inl rfl)) (fun _ _ _ _ _ => pts_nil) (fun _ _ _ _ _ => (pe_tup (pa_cons (pv 2) pa_nil)))) pa_nil))) (pa_cons (pv 0) pa_nil)))))), ?_, ?_⟩
  · rintro ds d ⟨rows, hne, hin, hc, e, rfl⟩ De o
    have e1 : ds = fms C rows := by
      have := (List.cons.inj e).1
      injection this
    subst e1
    have hn3 := hc.n3
    refine sd_seq (sd_drop (d := .non) (ep_callES (ea_cons (ep_var (i := 0) (d := .tup (fms C rows)) rfl) ea_nil) ⟨rows, hne, hn3, rfl, rfl⟩) (sd_go ?_))
    refine sd_seq (sd_asg (d := iD rows.length) (ep_is (ep_cb (ea_cons (ep_var (i := 0) (d := .tup (fms C rows)) rfl) ea_nil) rc_lenT) (by rw [fms_len])) rfl (sd_go ?_))
    refine sd_ret (ep_callO (ns := ["things", "lots"]) (l := [iD rows.length, tsD (KM.leastLots (ones rows.length))]) (ep_make (ea_cons (ep_var (i := 1) (d := iD rows.length) rfl) (ea_cons (EF.p (ef_is (ef_lcR1 (j := 2) (n := (rows.length : Int)) (fun i => tD [i]) (ea_cons (ep_var (i := 1) (d := iD rows.length) rfl) ea_nil) (by omega) (fun i _ => ep_tup (ea_cons (ep_var (i := 2) (d := iD i) rfl) ea_nil) (by show (1 : Nat) ≤ 100000; decide)) (fun _ _ => tD_im _)) (m := (ones rows.length).map tD) (by unfold ones; rw [List.map_map, show ((rows.length : Int)).toNat = rows.length by omega]; rfl))) ea_nil)) ⟨rows.length, ones rows.length, _, hin, .inr rfl, rfl, rfl, rfl⟩)
      (ea_cons (ep_var (i := 0) (d := .tup (fms C rows)) rfl) ea_nil) ⟨rows.length, _, rows, _, hc, .inl rfl, rfl, rfl⟩) o.rt
  · rintro ds C' x hq De o
    rcases hq with hq | ⟨rfl, rows, hne, hn3, hin, hbig, e, rfl⟩
    · exact sd_seq (sd_dropR (er_callE (ea_cons (ep_var (i := 0) (d := .tup ds) rfl) ea_nil) hq (wf_of o)))
    · have e1 : ds = fms C rows := by
        have := (List.cons.inj e).1
        injection this
      subst e1
      refine sd_seq (sd_drop (d := .non) (ep_callES (ea_cons (ep_var (i := 0) (d := .tup (fms C rows)) rfl) ea_nil) ⟨rows, hne, hn3, rfl, rfl⟩) (sd_go ?_))
      refine sd_seq (sd_asg (d := iD rows.length) (ep_is (ep_cb (ea_cons (ep_var (i := 0) (d := .tup (fms C rows)) rfl) ea_nil) rc_lenT) (by rw [fms_len])) rfl (sd_go ?_))
      refine sd_retR (er_callO (ns := ["things", "lots"]) (l := [iD rows.length, tsD (KM.leastLots (ones rows.length))]) (ep_make (ea_cons (ep_var (i := 1) (d := iD rows.length) rfl) (ea_cons (EF.p (ef_is (ef_lcR1 (j := 2) (n := (rows.length : Int)) (fun i => tD [i]) (ea_cons (ep_var (i := 1) (d := iD rows.length) rfl) ea_nil) (by omega) (fun i _ => ep_tup (ea_cons (ep_var (i := 2) (d := iD i) rfl) ea_nil) (by show (1 : Nat) ≤ 100000; decide)) (fun _ _ => tD_im _)) (m := (ones rows.length).map tD) (by unfold ones; rw [List.map_map, show ((rows.length : Int)).toNat = rows.length by omega]; rfl))) ea_nil)) ⟨rows.length, ones rows.length, _, hin, .inr rfl, rfl, rfl, rfl⟩)
        (ea_cons (ep_var (i := 0) (d := .tup (fms C rows)) rfl) ea_nil) ⟨rfl, rows.length, _, rows, _, rfl, hn3, hbig, .inl rfl, rfl, rfl⟩ (wf_of o))
/-! both -/
abbrev s_both : Stmt := topS 44
abbrev N_both : List Str := ["families", "size"]
theorem sc_both : FnScope N_both ["families"] (defScope s_both) := ⟨rfl, rfl, rfl, by decide +kernel, rfl, by decide +kernel, by decide +kernel⟩
def whole (k : Nat) : List (List Nat) := [List.range k]
theorem ok_both {f C CN CF : Addr} {fd : FuncData} (F : Fun K "both" "both" s_both f fd) (T : Txt mg) (hbd : ∀ us rest : List Value, us.length = ([] : List Str).length → bindArgs fd ⟨us ++ rest, []⟩ = (newTuple rest >>= fun t => pure (([] : List Str).zip us ++ [(("families" : Str), t)])))
    (c_ask_some : ClX P w K mg base 3 "ask_some" (PureE K (p_asome C) (q_asome C CN CF))) (c_Family : ClI P w K mg base 5 C "Family" (InitP K C p_init)) (c_call : ClC P w K mg base 7 C (PureE K (p_fcall C) (q_fcall C CN))) :
    FnR P w K mg base (L2.CX P w) 8 f (PureE K (fun ds d => p_star C whole [.tup ds] d) (fun ds C' x => q_star C CN CF whole [.tup ds] C' x)) := by
  refine starE_ok (pv := "families") F sc_both hbd star_len (by decide) fun cdv A outer s H E hr => ?_
  have tk : L2.Takes (cxOf (L2.CX P w) P w K mg base N_both "both" (defScope s_both) f cdv A outer s H E) (fun cls d _ H => E cls d H) := takes_of rfl rfl rfl rfl
  refine ⟨_, (pss_cons (ps_expr (pe_clX c_ask_some hr (by decide) (by rfl) tk (pa_cons (pv 0) pa_nil)))
    (pss_cons (ps_set (i := 1) sc_both.nd rfl (Or.inl rfl) (pe_callB (r := rLen K) call_lenY (by rfl) T.len PySem.boot_len (pa_cons (pv 0) pa_nil)))
    (pss_one (ps_ret (pe_clC c_call hr (by decide) tk (pe_clI c_Family hr (by decide) (by rfl) (pa_cons (pv 1) (pa_cons (pe_lst (pa_cons (pe_tupRg rfl (by rfl) T.tuple (prg_1 (by rfl) T.range (pv 1))) pa_nil)) pa_nil))) (pa_cons (pv 0) pa_nil)))))), ?_, ?_⟩
  · rintro ds d ⟨rows, hne, hin, hc, e, rfl⟩ De o
    have e1 : ds = fms C rows := by
      have := (List.cons.inj e).1
      injection this
    subst e1
    have hn3 := hc.n3
    refine sd_seq (sd_drop (d := .non) (ep_callES (ea_cons (ep_var (i := 0) (d := .tup (fms C rows)) rfl) ea_nil) ⟨rows, hne, hn3, rfl, rfl⟩) (sd_go ?_))
    refine sd_seq (sd_asg (d := iD rows.length) (ep_is (ep_cb (ea_cons (ep_var (i := 0) (d := .tup (fms C rows)) rfl) ea_nil) rc_lenT) (by rw [fms_len])) rfl (sd_go ?_))
    refine sd_ret (ep_callO (ns := ["things", "lots"]) (l := [iD rows.length, tsD (KM.leastLots (whole rows.length))]) (ep_make (ea_cons (ep_var (i := 1) (d := iD rows.length) rfl) (ea_cons (EF.p (ef_lst (ea_cons (ep_tupRg1 (ep_var (i := 1) (d := iD rows.length) rfl) (by omega)) ea_nil))) ea_nil)) ⟨rows.length, whole rows.length, _, hin, .inr rfl, rfl, rfl, rfl⟩)
      (ea_cons (ep_var (i := 0) (d := .tup (fms C rows)) rfl) ea_nil) ⟨rows.length, _, rows, _, hc, .inl rfl, rfl, rfl⟩) o.rt
  · rintro ds C' x hq De o
    rcases hq with hq | ⟨rfl, rows, hne, hn3, hin, hbig, e, rfl⟩
    · exact sd_seq (sd_dropR (er_callE (ea_cons (ep_var (i := 0) (d := .tup ds) rfl) ea_nil) hq (wf_of o)))
    · have e1 : ds = fms C rows := by
        have := (List.cons.inj e).1
        injection this
      subst e1
      refine sd_seq (sd_drop (d := .non) (ep_callES (ea_cons (ep_var (i := 0) (d := .tup (fms C rows)) rfl) ea_nil) ⟨rows, hne, hn3, rfl, rfl⟩) (sd_go ?_))
      refine sd_seq (sd_asg (d := iD rows.length) (ep_is (ep_cb (ea_cons (ep_var (i := 0) (d := .tup (fms C rows)) rfl) ea_nil) rc_lenT) (by rw [fms_len])) rfl (sd_go ?_))
      refine sd_retR (er_callO (ns := ["things", "lots"]) (l := [iD rows.length, tsD (KM.leastLots (whole rows.length))]) (ep_make (ea_cons (ep_var (i := 1) (d := iD rows.length) rfl) (ea_cons (EF.p (ef_lst (ea_cons (ep_tupRg1 (ep_var (i := 1) (d := iD rows.length) rfl) (by omega)) ea_nil))) ea_nil)) ⟨rows.length, whole rows.length, _, hin, .inr rfl, rfl, rfl, rfl⟩)
        (ea_cons (ep_var (i := 0) (d := .tup (fms C rows)) rfl) ea_nil) ⟨rfl, rows.length, _, rows, _, rfl, hn3, hbig, .inl rfl, rfl, rfl⟩ (wf_of o))
end
end Y
set_option Elab.async false
set_option linter.all false
set_option autoImplicit false
set_option maxRecDepth 100000
set_option maxHeartbeats 4000000
namespace Y
open PySem L2
def lo (row : List Nat) : Nat := match row.getLast? with
  | some x => x + 1
  | none => 0
def chS (k n : Nat) (rows : List (List Nat)) : List (List Nat) := rows.flatMap fun row => (List.range (n - k + row.length + 1 - lo row)).map fun i => row ++ [lo row + i]
def chAt (k n j : Nat) : List (List Nat) := (List.range j).foldl (fun rows _ => chS k n rows) [[]]
structure ChOk (k n : Nat) : Prop where
  kn : k ≤ n
  n3 : n ≤ 60
  len : ∀ j, j ≤ k → (chAt k n j).length < 1000
  row : ∀ j, j ≤ k → ∀ r ∈ chAt k n j, r.length < 1000 ∧ ∀ x ∈ r, x < 1000
section
variable {P : Program} {w : World} {K : PySem.W.Frag} {mg : Str → Option Value} {base : Heap}
/-! ask_between -/
abbrev s_ask_between : Stmt := topS 47
abbrev N_ask_between : List Str := ["value", "low", "high", "word"]
theorem sc_ask_between : FnScope N_ask_between ["value", "low", "high", "word"] (defScope s_ask_between) := ⟨rfl, rfl, rfl, by decide +kernel, rfl, by decide +kernel, by decide +kernel⟩
def p_between (ds : List D) (d : D) : Prop := ∃ (v a b : Nat) (x : Str), a ≤ v ∧ v ≤ b ∧ ds = [iD v, iD a, iD b, .str x] ∧ d = .non
theorem ok_ask_between {f : Addr} {fd : FuncData} (F : Fun K "ask_between" "ask_between" s_ask_between f fd) (T : Txt mg) (c_is_integer : Cl P w K mg base 1 "is_integer" (Pure K p_is_integer)) : FnOk P w K mg base CX0 2 f fd ["value", "low", "high", "word"] (Pure K p_between) := by
  refine pure_ok F sc_ask_between (fun ds d h => by obtain ⟨_, _, _, _, _, _, rfl, _⟩ := h; rfl) (by decide) fun cdv A outer s H E hr => ?_
  refine ⟨_, (pss_one (ps_if (pw_or (pt_not (pt_val (pe_cl c_is_integer hr (by decide) (by rfl) (pa_cons (pv 0) (pa_cons (pv 1) pa_nil))))) (pw_or1 (pt_cmpR op_gt (pv 0) (pv 2) (nomark _)))).pt pss_never pss_nil)), ?_⟩
  rintro ds d ⟨v, a, b, x, h1, h2, rfl, rfl⟩ De o
  have e : isInt (iD v) (a : Int) = true := by simp [isInt, iD]; omega
  have e2 : decide ((b : Int) < (v : Int)) = false := decide_eq_false (by omega)
  refine sd_if (et_or (et_not (et_B (ep_call (ea_cons (ep_var rfl) (ea_cons (ep_var rfl) ea_nil)) ⟨iD v, (a : Int), rfl, rfl, rfl⟩))) fun _ => et_test (ep_op (ep_var rfl) (ep_var rfl) (r2_cmp (g := fun i j => decide (j < i))))) (fun h => ?_) (fun h => sd_end o)
  rw [e, e2] at h
  cases h
/-! choices_of -/
abbrev s_choices_of : Stmt := topS 48
abbrev N_choices_of : List Str := ["k", "n", "rows", "_", "row", "e"]
theorem sc_choices_of : FnScope N_choices_of ["k", "n"] (defScope s_choices_of) := ⟨rfl, rfl, rfl, by decide +kernel, rfl, by decide +kernel, by decide +kernel⟩
def p_choices (ds : List D) (l : List D) : Prop := ∃ k n : Nat, ChOk k n ∧ ds = [iD k, iD n] ∧ l = (chAt k n k).map tD
theorem ok_choices_of {f : Addr} {fd : FuncData} (F : Fun K "choices_of" "choices_of" s_choices_of f fd) (T : Txt mg) : FnOk P w K mg base CX0 1 f fd ["k", "n"] (Fresh K p_choices) := by
  refine fresh_ok F sc_choices_of (fun ds d h => by obtain ⟨_, _, _, rfl, _⟩ := h; rfl) (by decide) fun cdv A outer s H E hr => ?_
  refine ⟨_, (pss_cons (ps_set (i := 2) sc_choices_of.nd rfl (Or.inl rfl) (pe_lst (pa_cons (pe_tup pa_nil) pa_nil)))
    (pss_cons (ps_for PassesOwn.never rfl (pi_range1 (by rfl) T.range (pa_cons (pv 0) pa_nil)) (pg_name (i := 3) sc_choices_of.nd rfl (Or.inl rfl))
    (pss_one (ps_setLc2 (i := 2) (own := [("row", 4), ("e", 5)]) (vs1 := [5]) (g := gName 4) (g1 := gName 5) rfl sc_choices_of.nd rfl rfl (sw_true rfl rfl rfl (by decide +kernel)) (pi_list (pv 2)) (blkOk_by (N := N_choices_of) (sc := defScope s_choices_of) (by decide +kernel)) (by decide) (fun _ _ _ _ _ => pg_name (i := 4) sc_choices_of.nd rfl (Or.inl rfl)) (fun _ _ _ _ _ => pts_nil)
      (fun _ _ _ _ _ => (pi_range2 (by rfl) T.range (pa_cons (pe_ifExp (pt_cmpR op_gt (pe_callB (r := rLen K) call_lenY (by rfl) T.len PySem.boot_len (pa_cons (pv 4) pa_nil)) pe_int (nomark _)) (pe_op op_add (pe_ix (r := rIxT K) ix_tup (pv 4) (pe_un un_neg pe_int) (fun _ _ => rfl)) pe_int) pe_int) (pa_cons (pe_op op_add (pe_op op_add (pe_op op_sub (pv 1) (pv 0)) (pe_callB (r := rLen K) call_lenY (by rfl) T.len PySem.boot_len (pa_cons (pv 4) pa_nil))) pe_int) pa_nil))))
      (fun _ _ _ _ _ => pg_name (i := 5) sc_choices_of.nd rfl (Or.inl rfl)) (fun _ _ _ _ _ => pts_nil) (fun _ _ _ _ _ => (pe_op (r := rCatA K) op_catA (pv 4) (pe_tup (pa_cons (pv 5) pa_nil)))))))
    (pss_one (ps_ret (pv 2))))), ?_⟩
  rintro ds d ⟨k, n, hc, rfl, rfl⟩ De o
  have hkn := hc.kn
  have hn3 := hc.n3
  refine sd_seq (sd_asgO (ef_lst (ea_cons (ep_tup ea_nil) ea_nil)) rfl fun p0 => sd_go ?_)
  refine sd_seq (sd_forRW (n := (k : Int)) (fun j E => ∃ p, E = [.val (iD k), .val (iD n), .own p ((chAt k n j).map tD), .no, .no, .no]) (ea_cons (ep_var (d := iD k) rfl) ea_nil) (by omega) ⟨p0, rfl⟩ ?_ ?_)
  · rintro j E hj ⟨p, rfl⟩
    have hst : chAt k n (j + 1) = chS k n (chAt k n j) := by
      unfold chAt
      rw [List.range_succ, List.foldl_append]
      rfl
    have h1 := hc.len (j + 1) (by omega)
    have h0 := hc.row j (by omega)
    rw [hst] at h1
    have eq0 : ((chAt k n j).flatMap fun a => (List.range (((n - k + a.length + 1 : Nat) : Int) - ((lo a : Nat) : Int)).toNat).map fun i => tD (a ++ [lo a + i])) = (chS k n (chAt k n j)).map tD := by
      unfold chS
      rw [fm_tD]
      congr 1
      funext a
      rw [List.map_map, show (((n - k + a.length + 1 : Nat) : Int) - ((lo a : Nat) : Int)).toNat = n - k + a.length + 1 - lo a by omega]
      rfl
    have lob : ∀ a ∈ chAt k n j, lo a ≤ 1000 := fun a ha => by
      unfold lo
      split
      · rename_i x e
        have := (h0 a ha).2 x (List.mem_of_getLast? e)
        omega
      · omega
    refine sd_asgO (l := (chS k n (chAt k n j)).map tD) (ef_is (ef_lc2LR (j := 4) (j1 := 5) (by decide) tD (ts := chAt k n j) (fun a => ((lo a : Nat) : Int)) (fun a => ((n - k + a.length + 1 : Nat) : Int)) (fun a i => tD (a ++ [lo a + i])) (ep_own (i := 2) rfl) (fun _ _ => tD_im _) (fun _ _ _ _ => tD_im _) ?_ (fun a ha => ?_) (fun a ha => ?_) (fun a ha b hb => ?_)) eq0) (imAll_tD _) fun q' => sd_lw ⟨q', rfl⟩ ?_
    · rw [eq0, List.length_map]
      omega
    · have := lob a ha
      have := (h0 a ha).1
      refine ⟨by omega, by omega, by omega, by omega⟩
    · refine ea_cons (ep_if (et_test (ep_op (ep_cb (ea_cons (ep_is (ep_var (i := 4) (d := tD a) rfl) (tD_eq a)) ea_nil) rc_lenTn) ep_n0 (r2_cmp (g := fun i j => decide (j < i))))) (fun h => ?_) (fun h => ?_)) (ea_cons (ep_is (ep_op (ep_op (ep_op (ep_var (i := 1) (d := iD n) rfl) (ep_var (i := 0) (d := iD k) rfl) r2_int) (ep_cb (ea_cons (ep_is (ep_var (i := 4) (d := tD a) rfl) (tD_eq a)) ea_nil) rc_lenTn) r2_int) ep_int r2_int) (by congr 1; omega)) ea_nil)
      · have h' : (0 : Int) < (a.length : Int) := by simpa using h
        obtain ⟨r, x, rfl⟩ : ∃ r x, a = r ++ [x] := by
          rcases List.eq_nil_or_concat a with rfl | ⟨r, x, e⟩
          · simp at h'
          · exact ⟨r, x, by simpa using e⟩
        have hlo : lo (r ++ [x]) = x + 1 := by unfold lo; simp
        refine ep_is (ep_op (ep_op (ep_is (ep_var (i := 4) (d := tD (r ++ [x])) rfl) (tD_eq _)) (ep_un (x := .int 1) ep_int r1_neg) (r2_ixT (d := iD x) ?_)) ep_n1 r2_int) (by rw [hlo]; congr 1)
        unfold atI ixN
        rw [List.length_map, List.length_append, List.length_singleton, if_neg (by omega), if_pos (by omega)]
        have e : ((-1 : Int) + ((r.length + 1 : Nat) : Int)).toNat = r.length := by omega
        show ((r ++ [x]).map iD)[((-1 : Int) + ((r.length + 1 : Nat) : Int)).toNat]? = _
        rw [e, List.getElem?_map]
        simp
      · have h' : ¬ (0 : Int) < (a.length : Int) := by simpa using h
        have : a = [] := List.length_eq_zero_iff.mp (by omega)
        subst this
        exact ep_int
    · refine ep_is (ep_op (ep_is (ep_var (i := 4) (d := tD a) rfl) (tD_eq a)) (ep_tup (ea_cons (ep_var (i := 5) rfl) ea_nil)) (r2_catA (by rw [List.length_map]; have := (h0 a ha).1; simp; omega))) ?_
      rw [tD_eq, List.map_append]
      congr 2
    · show LeE [_, _, _, _, _, _] [_, _, _, _, _, _]
      rw [hst]
      exact .eq (.eq (.eq (.no (.eq (.eq .nil)))))
  · rintro E ⟨p, rfl⟩
    rw [show ((k : Int)).toNat = k by omega]
    exact sd_go (sd_retO rfl o.rt)
/-! votes -/
abbrev s_votes : Stmt := topS 49
abbrev N_votes : List Str := ["k", "n"]
theorem sc_votes : FnScope N_votes ["k", "n"] (defScope s_votes) := ⟨rfl, rfl, rfl, by decide +kernel, rfl, by decide +kernel, by decide +kernel⟩
def p_votes (C : Addr) (ds : List D) (d : D) : Prop := ∃ k n : Nat, 1 ≤ k ∧ ChOk k n ∧ InOk n (chAt k n k) ∧ ds = [iD k, iD n] ∧ d = famD C n (KM.leastLots (chAt k n k))
theorem ok_votes {f C : Addr} {fd : FuncData} {tM : Tok} (F : Fun K "votes" "votes" s_votes f fd) (T : Txt mg) (hM : mg "MOST_THINGS" = some (.int 60 tM)) (c_ask_between : Cl P w K mg base 2 "ask_between" (Pure K p_between)) (c_choices_of : Cl P w K mg base 1 "choices_of" (Fresh K p_choices)) (c_Family : ClI P w K mg base 5 C "Family" (InitP K C p_init)) :
    FnOk P w K mg base CX0 7 f fd ["k", "n"] (Pure K (p_votes C)) := by
  refine pure_ok F sc_votes (fun ds d h => by obtain ⟨_, _, _, _, _, rfl, _⟩ := h; rfl) (by decide) fun cdv A outer s H E hr => ?_
  refine ⟨_, (pss_cons (ps_expr (pe_cl c_ask_between hr (by decide) (by rfl) (pa_cons (pv 0) (pa_cons pe_int (pa_cons (pe_glob (v := .int 60) (by rfl) hM ⟨_, rfl⟩) (pa_cons pe_str pa_nil))))))
    (pss_cons (ps_expr (pe_cl c_ask_between hr (by decide) (by rfl) (pa_cons (pv 1) (pa_cons (pv 0) (pa_cons (pe_glob (v := .int 60) (by rfl) hM ⟨_, rfl⟩) (pa_cons pe_str pa_nil))))))
    (pss_one (ps_ret (pe_clI c_Family hr (by decide) (by rfl) (pa_cons (pv 1) (pa_cons (pe_cl c_choices_of hr (by decide) (by rfl) (pa_cons (pv 0) (pa_cons (pv 1) pa_nil))) pa_nil))))))), ?_⟩
  rintro ds d ⟨k, n, hk, hc, hi, rfl, rfl⟩ De o
  have hkn := hc.kn
  have hn3 := hc.n3
  refine sd_seq (sd_drop (d := .non) (ep_call (ea_cons (ep_var rfl) (ea_cons (ep_nat (n := 1)) (ea_cons (ep_nat (n := 60)) (ea_cons ep_str ea_nil)))) ⟨k, 1, 60, _, hk, by omega, rfl, rfl⟩) (sd_go ?_))
  refine sd_seq (sd_drop (d := .non) (ep_call (ea_cons (ep_var rfl) (ea_cons (ep_var rfl) (ea_cons (ep_nat (n := 60)) (ea_cons ep_str ea_nil)))) ⟨n, k, 60, _, hkn, hn3, rfl, rfl⟩) (sd_go ?_))
  exact sd_ret (ep_make (ea_cons (ep_var (i := 1) (d := iD n) rfl) (ea_cons (EF.p (ef_call (ea_cons (ep_var (i := 0) (d := iD k) rfl) (ea_cons (ep_var (i := 1) (d := iD n) rfl) ea_nil)) ⟨k, n, hc, rfl, rfl⟩)) ea_nil)) ⟨n, chAt k n k, _, hi, .inr rfl, rfl, rfl, rfl⟩) o.rt
end
end Y
set_option Elab.async false
set_option linter.all false
set_option autoImplicit false
set_option maxRecDepth 100000
set_option maxHeartbeats 2000000
/-! Several except clauses, with and without names, after the kit's rules for one named clause and for several unnamed ones. -/
namespace Y
open PySem PySem.Spec PyProof.Rows L2
abbrev Suite := Addr → Value → Option Addr → TS
/-- the ends within a named clause -/
def unb (D : Ends) (i : Nat) : Ends := ⟨fun σ H => D.nx (σ.set i none) H, D.rt, fun σ H => D.bk (σ.set i none) H, fun σ H => D.ct (σ.set i none) H⟩
def wManyA (K : PySem.W.Frag) (Wout : WX) (D : Ends) : List (Value × Option Nat × Suite) → WX
  | [] => Wout
  | (c, o, ts) :: r => fun cls d σ H => ∃ b, PySem.W.exmOne K cls c = some b ∧ (b = true → ∀ a, H a = none → match o with
      | none => ts a cls d D σ H
      | some i => ts a cls d (unb D i) (σ.set i (some (.ref a))) H) ∧ (b = false → wManyA K Wout D r cls d σ H)
def SuiteOk (X : Cx) (su : List Stmt) (ts : Suite) : Prop := ∀ (a : Addr) (oe : Obj) (cls : Value) (d : Option Addr) (pn : List (Addr × Obj)), Zc cls d oe → (∃ vs, oe.data = .fields vs) → PSs (X.suite a ((a, oe) :: pn)) su (ts a cls d)
inductive HdsA (X : Cx) : List ExceptHandler → List (Value × Option Nat × Suite) → Prop
  | nil : HdsA X [] []
  | one {x : Str} {c : Value} {ts : Suite} {b₀ : Stmt} {su : List Stmt} {np p' : Pos} {hds : List ExceptHandler} {l : List (Value × Option Nat × Suite)} (hc : Names X x c) (hsu : SuiteOk X (b₀ :: su) ts) (r : HdsA X hds l) : HdsA X (.ExceptHandler (some (.Name x np)) none (b₀ :: su) p' :: hds) ((c, none, ts) :: l)
  | nam {x n : Str} {i : Nat} {c : Value} {ts : Suite} {b₀ : Stmt} {su : List Stmt} {np p' : Pos} {hds : List ExceptHandler} {l : List (Value × Option Nat × Suite)} (hi : X.N[i]? = some n) (hln : X.env.kindOf n = some .local) (hc : Names X x c) (hsu : SuiteOk X (b₀ :: su) ts) (r : HdsA X hds l) :
      HdsA X (.ExceptHandler (some (.Name x np)) (some n) (b₀ :: su) p' :: hds) ((c, some i, ts) :: l)
section
variable {X : Cx} {body : List Stmt} {h₀ : ExceptHandler} {hds : List ExceptHandler} {l : List (Value × Option Nat × Suite)} {pos : Pos} {tb : WX → TS} {Wout : WX}
theorem ps_try_manyA (hs : X.stack = X.env :: X.outer) (hf : X.env.frame = some X.env.locals) (hN : X.N.Nodup) (tk : Takes X Wout)
    (hb : ∀ (W : WX) (pn : List (Addr × Obj)) (xe : Value → Shared → Prop), Takes (X.tr pn xe) W → PassesOwn (model X.prog X.w) X.A X.env xe → PSs (X.tr pn xe) body (tb W)) (hh : HdsA X (h₀ :: hds) l) :
    PS X (.Try body (h₀ :: hds) [] [] pos) (fun D σ H => tb (wManyA X.K Wout D l) D σ H) := by
  refine ⟨fun pins s σ H D I h => wpAny_Try_except (wpAny_mono ((hb (wManyA X.K Wout D l) (X.pn ++ pins) (fun e s₁ => wpAny (model X.prog X.w) X.A (noteFrame e X.env) (fun _ s₂ => wpAny (model X.prog X.w) X.A (setFlight e none) (fun _ s₃ => wpAny (model X.prog X.w) X.A (handleBy e X.env (h₀ :: hds)) (SP X pins D) X.xe s₃) X.xe s₂) X.xe s₁)
    (fun u s' xx => ?_) PassesOwn.looking).run [] s σ H D (I.toTry _) h) (fun f s1 hsp => ?_) (fun e s1 he => he))⟩
  · obtain ⟨a, B, sI, pins', σ', H', cls, d, rfl, J', nb, up, sky, na, os, ag, w⟩ := xx
    have hfr : X.A.frames = some (X.env :: X.outer) := I.ok.frames.trans (congrArg some hs)
    have J : Inv X pins σ' H' sI := J'.ofTry I.ok
    show wpAny (model X.prog X.w) X.A (noteFrame (.ref a) X.env) _ _ _
    refine Sky.land Zc.steady hfr hf (hs ▸ sky) fun h3 fl3 up3 => ?_
    have J3 : Inv X pins σ' H' { s' with heap := h3 } := J.landed nb fl3.1 (up.trans up3) os ag
    obtain ⟨oe3, vs3, he3, hz3, hd3⟩ := fl3.there
    have nfr : a ∉ frs (X.env :: X.outer) := fun hm => by
      obtain ⟨_, o', e', hnf⟩ := fl3.2.2.1.mem hm
      cases he3.symm.trans e'
      exact hnf _ hd3
    have nL : a ≠ X.env.locals := fun z => nfr (List.mem_filterMap.mpr ⟨X.env, by simp, by rw [hf, z]⟩)
    have nF : a ∉ X.fs := fun hm => let ⟨e, he, q⟩ := List.mem_filterMap.mp hm; nfr (List.mem_filterMap.mpr ⟨e, by simp [he], q⟩)
    have S3 := J3.suite he3 hd3 na nL nF
    have LT : PySem.W.Looks (model X.prog X.w) h3 (typeOf (.ref a)) cls := fun A Q E s k q => wpAny_typeOf_ref (k _ _ he3) (hz3.1 ▸ q)
    have test : ∀ {x : Str} {c : Value} {np : Pos} {Q : Value → Shared → Prop} {E : Value → Shared → Prop}, Names X x c → Q c { s' with heap := h3 } → wpAny (model X.prog X.w) (X.A.mark (some (.ref a))) (eval (.Name x np) X.env) Q E { s' with heap := h3 } := fun {x c np Q E} hc q => by
      rcases hc with ⟨hg, hdbg, hm | ⟨hm, hv, hnn⟩⟩
      · exact ld_glob (X := X.suite a ((a, oe3) :: (X.pn ++ pins))) S3 hg hm q hdbg
      · exact ld_blt (X := X.suite a ((a, oe3) :: (X.pn ++ pins))) S3 hg hm hv q hnn hdbg
    have go : ∀ {hds' : List ExceptHandler} {l' : List (Value × Option Nat × Suite)}, HdsA X hds' l' → wManyA X.K Wout D l' cls d σ' H' → wpAny (model X.prog X.w) X.A (handleBy (.ref a) X.env hds') (SP X pins D) X.xe { s' with heap := h3 } := by
      intro hds' l' hk
      induction hk with
      | nil =>
        refine fun w => wpAny_handleBy_nil ?_
        obtain ⟨k1, k2, k3, oe, vs, T, oT, ts', he, hz, hd, h1, hr⟩ := id fl3
        have fin : wpAny (model X.prog X.w) X.A (setFlight (.ref a) X.env.frame) (fun _ s4 => wpAny (model X.prog X.w) X.A (throw (.ref a) : Sem Flow) (SP X pins D) X.xe s4) X.xe { s' with heap := h3 } :=
          hf.symm ▸ HandSPX.setFlight_upZ fl3 fun h4 hh4 up4 => wpAny_throw (tk _ _ ⟨a, B, sI, pins, σ', H', cls, d, rfl, J, nb, (up.trans up3).trans up4, .inr (.inr (hs.symm ▸ hh4)), na, os, ag, w⟩)
        unfold PySem.passOn
        refine wpAny_bind (wpAny_field he hd h1 ?_)
        rw [if_neg (show ¬ ((Value.ref T == Value.none) = true) by simp)]
        first | exact wpAny_bind (wpAny_pure (wpAny_bind fin)) | exact wpAny_bind fin
      | @one x c ts b₀ su np p' hds2 l2 hc hsu r ih =>
        rintro ⟨b, hb1, hyes, hno⟩
        refine wpAny_handleBy_cons (codeAny_handlers_test (test hc ((PySem.W.exm_one (M := model X.prog X.w) J3.kIn LT hb1).here ?_))) (by intro q; cases q)
        cases b with
        | false => exact ih (hno rfl)
        | true =>
          refine codeAny_handlers_suite (HandSPX.lands_againZ fl3 fun h4 fl4 up4 => ?_)
          obtain ⟨oe4, vs4, he4, hz4, hd4⟩ := fl4.there
          refine wpAny_mono ((hsu a oe4 cls d (X.pn ++ pins) hz4 ⟨_, hd4⟩).run [] _ _ H' _ ((J.landed nb fl4.1 ((up.trans up3).trans up4) os ag : Inv X pins σ' H' { s' with heap := h4 }).suite he4 hd4 na nL nF) (hyes rfl a na)) (fun f s6 hsp => ?_) (fun _ _ z => z.elim)
          cases f with
          | ret u => exact let ⟨v6, σ6, H6, S6, r6, q6⟩ := hsp; ⟨_, _, _, S6.unsuite I.ok, r6, q6⟩
          | next => exact let ⟨σ6, H6, S6, q6⟩ := hsp; ⟨_, _, S6.unsuite I.ok, q6⟩
          | brk => exact let ⟨σ6, H6, S6, q6⟩ := hsp; ⟨_, _, S6.unsuite I.ok, q6⟩
          | cont => exact let ⟨σ6, H6, S6, q6⟩ := hsp; ⟨_, _, S6.unsuite I.ok, q6⟩
      | @nam x n i c ts b₀ su np p' hds2 l2 hi hln hc hsu r ih =>
        rintro ⟨b, hb1, hyes, hno⟩
        refine wpAny_handleBy_cons (codeAny_handlers_test (test hc ((PySem.W.exm_one (M := model X.prog X.w) J3.kIn LT hb1).here ?_))) (by intro q; cases q)
        cases b with
        | false => exact ih (hno rfl)
        | true =>
          refine codeAny_handlers_suite_as (HandSPX.lands_againZ fl3 fun h4 fl4 up4 => ?_)
          obtain ⟨oe4, vs4, he4, hz4, hd4⟩ := fl4.there
          refine store_ok (X := X.suite a ((a, oe4) :: (X.pn ++ pins))) (v := .ref a) ((J.landed nb fl4.1 ((up.trans up3).trans up4) os ag : Inv X pins σ' H' { s' with heap := h4 }).suite he4 hd4 na nL nF) hN hi (.inl hln) rfl (fun s5 S5 => ?_) (.inr hln)
          refine wpAny_mono ((hsu a oe4 cls d (X.pn ++ pins) hz4 ⟨_, hd4⟩).run [] s5 _ H' _ S5 (hyes rfl a na)) (fun f s6 hsp => ?_) (fun _ _ z => z.elim)
          have end_ : ∀ {σ6 : L2.St} {H6 : Hp} {Q : Shared → Prop}, Inv (X.suite a ((a, oe4) :: (X.pn ++ pins))) [] σ6 H6 s6 → (∀ s7, Inv X pins (σ6.set i none) H6 s7 → Q s7) → wpAny (model X.prog X.w) X.A (do bindName X.env n .none; unbindBehindTheSuite X.env n p') (fun _ s7 => Q s7) X.xe s6 := fun S6 hq => gone_ok (S6.unsuite I.ok) hN hi hln hq
          cases f with
          | ret u => exact let ⟨v6, σ6, H6, S6, r6, q6⟩ := hsp; end_ S6 fun s7 J7 => ⟨_, _, _, J7, r6, q6⟩
          | next => exact let ⟨σ6, H6, S6, q6⟩ := hsp; end_ S6 fun s7 J7 => ⟨_, _, J7, q6⟩
          | brk => exact let ⟨σ6, H6, S6, q6⟩ := hsp; end_ S6 fun s7 J7 => ⟨_, _, J7, q6⟩
          | cont => exact let ⟨σ6, H6, S6, q6⟩ := hsp; end_ S6 fun s7 J7 => ⟨_, _, J7, q6⟩
    exact go hh w
  · cases f with
    | ret u => exact let ⟨v, σ', H', J', r, q⟩ := hsp; ⟨v, σ', H', J'.ofTry I.ok, r, q⟩
    | next => exact let ⟨σ', H', J', q⟩ := hsp; wpAny_execs_nil ⟨σ', H', J'.ofTry I.ok, q⟩
    | brk => exact let ⟨σ', H', J', q⟩ := hsp; ⟨σ', H', J'.ofTry I.ok, q⟩
    | cont => exact let ⟨σ', H', J', q⟩ := hsp; ⟨σ', H', J'.ofTry I.ok, q⟩
end
end Y
set_option Elab.async false
set_option linter.all false
set_option autoImplicit false
set_option maxRecDepth 100000
set_option maxHeartbeats 4000000
namespace Y
open PySem L2
section
variable {K : PySem.W.Frag}
theorem r2_ninS {a : Nat} {s : D} {f : List Nat} (hs : Seq s (f.map iD)) : R2d K (rIn K true) (iD a) s (.bl (!decide (a ∈ f))) := by
  have h := r2_ninI (K := K) (i := (a : Int)) (ns := zs f) (y := s) (by
    have e0 : f.map iD = (zs f).map D.int := by unfold zs; rw [List.map_map]; rfl
    rw [← e0]
    exact hs)
  have e : decide ((a : Int) ∈ zs f) = decide (a ∈ f) := by
    rw [Bool.eq_iff_iff, decide_eq_true_iff, decide_eq_true_iff]
    unfold zs
    constructor
    · intro h
      obtain ⟨y, h1, h2⟩ := List.mem_map.mp h
      have : y = a := by omega
      rw [← this]; exact h1
    · intro h
      exact List.mem_map.mpr ⟨a, h, rfl⟩
  rw [e] at h
  exact h
theorem atNm {names : List Nat} {t : Nat} (h : t < names.length) : atI (names.map iD) (t : Int) = some (iD (names.getD t 0)) := atI_nat (by rw [List.getElem?_map, List.getElem?_eq_getElem h]; simp [List.getD, List.getElem?_eq_getElem h])
theorem nD_cmp (l : List Nat) : Cmpb (nD l) := (cmpb_list fun d hd => by obtain ⟨x, _, rfl⟩ := List.mem_map.mp hd; exact ⟨rfl, rfl, by show 0 ≤ 50; decide⟩).1
end
section
variable {P : Program} {w : World} {K : PySem.W.Frag} {mg : Str → Option Value} {base : Heap}
/-! inside, of a list too -/
def p_insideS (ds : List D) (d : D) : Prop := ∃ (a b : List Nat) (s : D), a.length < 1000 ∧ Seq s (b.map iD) ∧ ds = [tD a, s] ∧ d = .bl (KM.inside a b)
theorem ok_law_insideS {f : Addr} {fd : FuncData} (F : Fun K "_law_inside" "_law_inside" s_law_inside f fd) (T : Txt mg) : FnOk P w K mg base CX0 1 f fd ["_law_one", "_law_other"] (Pure K p_insideS) := by
  refine pure_ok F sc_law_inside (fun ds d h => by obtain ⟨_, _, _, _, _, rfl, _⟩ := h; rfl) (by decide) fun cdv A outer s H E hr => ?_
  refine ⟨_, (pss_one (ps_ret (pe_cmpR op_eq (pe_callB call_len_seq (by rfl) T.len PySem.boot_len (pa_cons (pe_lc (own := [("_law_thing", 2)]) (g := gName 2) rfl sc_law_inside.nd (pi_tup (pv 0)) (blkOk_by (N := N_law_inside) (sc := defScope s_law_inside) (by decide +kernel)) (fun _ _ _ _ _ => pg_name (i := 2) sc_law_inside.nd rfl (Or.inl rfl)) (fun _ _ _ _ _ => (pts_one (pt_cmpR (r := rIn K true) op_notIn_seq (pv 2) (pv 1) rfl))) (fun _ _ _ _ _ => (pv 2))) pa_nil)) pe_int (nomark _)))), ?_⟩
  rintro ds d ⟨a, b, sq, hz, hs, rfl, rfl⟩ De o
  exact sd_ret (ep_op (ep_cb (ea_cons (EF.p (ef_lcT (c := iD) (ts := a) (fun x => !decide (x ∈ b)) iD (ep_var (tD_at rfl)) (fun _ _ => rfl) (by omega) (fun x _ => et_test (ep_op (ep_var (d := iD x) rfl) (ep_var (d := sq) rfl) (r2_ninS hs))) (fun x _ _ => ep_var rfl) (fun _ _ _ => rfl))) ea_nil) rc_lenLn) ep_n0 r2_eqN) o.rt
/-! holds, of a list too -/
def p_holdsS (ds : List D) (d : D) : Prop := ∃ (ls : List (List Nat)) (t : List Nat) (s : D), LL ls ∧ Seq s (t.map iD) ∧ ds = [lsD ls, s] ∧ d = .bl (KM.holds ls t)
theorem ok_law_holdsS {f : Addr} {fd : FuncData} (F : Fun K "_law_holds" "_law_holds" s_law_holds f fd) (T : Txt mg) (c_law_inside : Cl P w K mg base 1 "_law_inside" (Pure K p_insideS)) : FnOk P w K mg base CX0 2 f fd ["_law_lots", "_law_those"] (Pure K p_holdsS) := by
  refine pure_ok F sc_law_holds (fun ds d h => by obtain ⟨_, _, _, _, _, rfl, _⟩ := h; rfl) (by decide) fun cdv A outer s H E hr => ?_
  refine ⟨_, (pss_cons (ps_for PassesOwn.never rfl (pi_list (pv 0)) (pg_name (i := 2) sc_law_holds.nd rfl (Or.inl rfl))
    (pss_one (ps_if (pt_val (pe_cl c_law_inside hr (by decide) (by rfl) (pa_cons (pv 2) (pa_cons (pv 1) pa_nil)))) (pss_one (ps_ret pe_bl)) pss_nil)))
    (pss_one (ps_ret pe_bl))), ?_⟩
  rintro ds d ⟨ls, t, sq, hL, hs, rfl, rfl⟩ De o
  refine sd_seq (sd_forLP (c := tD) (ts := ls) (fun i => ∀ l ∈ ls.take i, KM.inside l t = false) (ec_var rfl) (fun _ => [.val (lsD ls), .val sq, .no]) rfl (by simp) (fun Z' i lot hlot hp => ?_) (fun hp => sd_go ?_))
  · refine sd_if (et_B (ep_call (ea_cons (ep_var rfl) (ea_cons (ep_var rfl) ea_nil)) ⟨lot, t, sq, (hL.sm lot (List.mem_of_getElem? hlot)).len, hs, rfl, rfl⟩)) (fun h => ?_) (fun h => ?_)
    · have e : KM.holds ls t = true := List.any_eq_true.mpr ⟨lot, List.mem_of_getElem? hlot, h⟩
      rw [e] at o
      exact sd_ret ep_bl o.rt
    · refine sd_lp (fun l hl => ?_) (.eq (.eq (.no .nil)))
      rw [take_step hlot] at hl
      rcases List.mem_append.mp hl with hl | hl
      · exact hp l hl
      · have : l = lot := by simpa using hl
        rw [this]; exact h
  · have e : KM.holds ls t = false := by
      rw [List.take_length] at hp
      rw [← Bool.not_eq_true]
      intro z
      obtain ⟨l, h1, h2⟩ := List.any_eq_true.mp z
      rw [hp l h1] at h2
      cases h2
    rw [e] at o
    exact sd_ret ep_bl o.rt
/-! name_sets -/
abbrev s_law_name_sets : Stmt := topS 69
abbrev N_law_name_sets : List Str := ["_law_lots", "_law_names", "_law_found", "_law_lot", "_law_row", "_law_thing"]
theorem sc_law_name_sets : FnScope N_law_name_sets ["_law_lots", "_law_names"] (defScope s_law_name_sets) := ⟨rfl, rfl, rfl, by decide +kernel, rfl, by decide +kernel, by decide +kernel⟩
def p_name_sets (ds : List D) (l : List D) : Prop := ∃ (n w : Nat) (ls : List (List Nat)) (names : List Nat), InOk n ls ∧ KM.Nms n w names ∧ w < 1000 ∧ ds = [lsD ls, nD names] ∧ l = (KM.mg names ls).map tD
theorem ok_law_name_sets {f : Addr} {fd : FuncData} (F : Fun K "_law_name_sets" "_law_name_sets" s_law_name_sets f fd) (T : Txt mg) (c_law_least : Cl P w K mg base 2 "_law_least" (Fresh K p_law_least)) : FnOk P w K mg base CX0 3 f fd ["_law_lots", "_law_names"] (Fresh K p_name_sets) := by
  refine fresh_ok F sc_law_name_sets (fun ds d h => by obtain ⟨_, _, _, _, _, _, _, rfl, _⟩ := h; rfl) (by decide) fun cdv A outer s H E hr => ?_
  refine ⟨_, (pss_cons (ps_set (i := 2) sc_law_name_sets.nd rfl (Or.inl rfl) (pe_lst pa_nil))
    (pss_cons (ps_for PassesOwn.never rfl (pi_list (pv 0)) (pg_name (i := 3) sc_law_name_sets.nd rfl (Or.inl rfl))
    (pss_cons (ps_set (i := 4) sc_law_name_sets.nd rfl (Or.inl rfl) (pe_lst pa_nil))
    (pss_cons (ps_for PassesOwn.never rfl (pi_tup (pv 3)) (pg_name (i := 5) sc_law_name_sets.nd rfl (Or.inl rfl))
    (pss_one (ps_if (pt_cmpR (r := rIn K true) op_notIn_seq (pe_ix (r := rIxL K) ix_list (pv 1) (pv 5) (fun _ _ => rfl)) (pv 4) rfl) (pss_one (ps_expr (pe_bm PySem.F.plainAttrs_list PySem.F.slot_list_append PySem.F.type_list_append mt_append (pv 4) (pa_cons (pe_ix (r := rIxL K) ix_list (pv 1) (pv 5) (fun _ _ => rfl)) pa_nil)))) pss_nil)))
    (pss_one (ps_expr (pe_bm PySem.F.plainAttrs_list PySem.F.slot_list_append PySem.F.type_list_append mt_append (pv 2) (pa_cons (pe_callTy (r := rTupOf K) call_tupY (by rfl) T.tuple (by decide +kernel) (pa_cons (pe_callB (r := rSortedI K) cr_sortedI (by rfl) T.sorted (by decide +kernel) (pa_cons (pv 4) pa_nil)) pa_nil)) pa_nil)))))))
    (pss_one (ps_ret (pe_cl c_law_least hr (by decide) (by rfl) (pa_cons (pv 2) pa_nil)))))), ?_⟩
  rintro ds d ⟨n, w', ls, names, hi, hN, hw, rfl, rfl⟩ De o
  have hlen := hi.len
  refine sd_seq (sd_asgO (ef_lst ea_nil) rfl fun p => sd_go ?_)
  refine sd_seq (sd_forLP (c := tD) (ts := ls) (fun _ => True) (ec_var rfl) (fun i => [.val (lsD ls), .val (nD names), .own p (((ls.take i).map (KM.nm names)).map tD), .no, .no, .no]) rfl trivial (fun Z' i l hl _ => ?_) (fun _ => sd_go ?_))
  · have hlm : l ∈ ls := List.mem_of_getElem? hl
    have h60 := hi.ll hlm
    refine sd_seq (sd_asgO (ef_lst ea_nil) rfl fun q => sd_go ?_)
    let R : Nat → List Nat := fun j => KM.ded ((l.take j).map fun t => names.getD t 0)
    refine sd_seq (sd_forTW (c := iD) (ts := l) (fun j E => E = [.val (lsD ls), .val (nD names), .own p (((ls.take i).map (KM.nm names)).map tD), .val (tD l), .own q ((R j).map iD), .no]) (ec_im (ep_is (ep_var (i := 3) (d := tD l) rfl) (tD_eq l)) (by rw [← tD_eq]; exact tD_im l)) rfl ?_ ?_)
    · rintro Z2 j t E ht rfl
      have htm : t ∈ l := List.mem_of_getElem? ht
      have htn : t < names.length := by rw [hN.len]; exact hi.lt l hlm t htm
      have hst : R (j + 1) = KM.dedS (R j) (names.getD t 0) := by
        simp only [R]
        rw [take_step ht, List.map_append]
        unfold KM.ded
        rw [List.foldl_append]
        rfl
      have hRl : (R j).length < 1000 := by
        have := KM.ded_len ((l.take j).map fun t => names.getD t 0)
        rw [List.length_map, List.length_take] at this
        simp only [R]
        omega
      generalize hRj : R j = r at hst hRl
      have ix : ∀ {Z : Hp → Prop}, EP K [] H Z (tOp (rIxL K) (tVar 1) (tVar 5)) [.val (lsD ls), .val (nD names), .own p (((ls.take i).map (KM.nm names)).map tD), .val (tD l), .own q (r.map iD), .val (iD t)] (iD (names.getD t 0)) := ep_op (ep_var (i := 1) (d := nD names) rfl) (ep_var (i := 5) (d := iD t) rfl) (r2_ixL (atNm htn))
      refine sd_if (et_test (ep_op ix (ep_own (i := 4) rfl) (r2_ninS (.inr rfl)))) (fun h => ?_) (fun h => sd_lw rfl ?_)
      · refine sd_app (p := q) (i := 4) rfl ix rfl (by rw [List.length_map]; omega) (sd_lw rfl ?_)
        have hm : names.getD t 0 ∉ r := by simpa using h
        rw [hst]
        unfold KM.dedS
        rw [if_neg hm, List.map_append]
        exact .eq (.eq (.eq (.eq (.eq (.no .nil)))))
      · have hm : names.getD t 0 ∈ r := by simpa using h
        rw [hst]
        unfold KM.dedS
        rw [if_pos hm]
        exact .eq (.eq (.eq (.eq (.eq (.no .nil)))))
    · rintro E rfl
      have hR : R l.length = KM.ded (l.map fun t => names.getD t 0) := by simp only [R]; rw [List.take_length]
      rw [hR]
      refine sd_go (sd_app (p := p) (i := 2) (d := tD (KM.nm names l)) rfl (ep_is (ep_cb (ea_cons (EF.p (ef_cb (ea_cons (ep_own (i := 4) rfl) ea_nil) rf_sortedN)) ea_nil) rc_tupleL) (by rw [tD_eq]; rfl)) (tD_im _) (by rw [List.length_map, List.length_map, List.length_take]; omega) (sd_lp trivial ?_))
      rw [take_step hl, List.map_append, List.map_append]
      exact .eq (.eq (.eq (.no (.no (.no .nil)))))
  · rw [List.take_length]
    refine sd_retF (ef_call (ea_cons (ep_own (i := 2) rfl) ea_nil) ⟨ls.map (KM.nm names), ⟨by rw [List.length_map]; exact hlen, fun l hl => ?_⟩, fun l hl => ?_, rfl, rfl⟩) o.rt
    · obtain ⟨m, hm, rfl⟩ := List.mem_map.mp hl
      refine ⟨fun x hx => ?_, ?_⟩
      · have := KM.nm_lt hN (hi.lt m hm) x hx
        omega
      · have := KM.img_len (m.map fun t => names.getD t 0)
        have h60 := hi.ll hm
        rw [List.length_map] at this
        unfold KM.nm
        omega
    · obtain ⟨m, hm, rfl⟩ := List.mem_map.mp hl
      exact KM.nm_ne (hi.lne m hm)
/-! order -/
abbrev s_law_order : Stmt := topS 71
abbrev N_law_order : List Str := ["_law_draws_here", "_law_size", "_law_waiting", "_law_found", "_law_turn"]
theorem sc_law_order : FnScope N_law_order ["_law_draws_here", "_law_size"] (defScope s_law_order) := ⟨rfl, rfl, rfl, by decide +kernel, rfl, by decide +kernel, by decide +kernel⟩
def ok_ord (ds : List D) : Prop := ∃ n : Nat, n ≤ 12 ∧ ds = [iD n]
def p_order (ds : List D) (d : D) : Prop := ∀ n : Nat, ds = [iD n] → ∃ names : List Nat, names.Perm (List.range n) ∧ d = nD names
theorem ok_law_order {f : Addr} {fd : FuncData} (F : Fun K "_law_order" "_law_order" s_law_order f fd) (T : Txt mg) (c_law_pick : Cl P w K mg base 1 "_law_pick" (PickP K)) : FnOk P w K mg base CX0 2 f fd ["_law_draws_here", "_law_size"] (DrawP K ok_ord p_order) := by
  refine draw_ok F sc_law_order (fun ds h => by obtain ⟨_, _, rfl⟩ := h; rfl) (by decide) fun cdv A outer s H E hr => ?_
  refine ⟨_, (pss_cons (ps_set (i := 2) sc_law_order.nd rfl (Or.inl rfl) (pe_listRg rfl (by rfl) T.list (prg_1 (by rfl) T.range (pv 1))))
    (pss_cons (ps_set (i := 3) sc_law_order.nd rfl (Or.inl rfl) (pe_lst pa_nil))
    (pss_cons (ps_for PassesOwn.never rfl (pi_range1 (by rfl) T.range (pa_cons (pv 1) pa_nil)) (pg_name (i := 4) sc_law_order.nd rfl (Or.inl rfl))
    (pss_one (ps_expr (pe_bm PySem.F.plainAttrs_list PySem.F.slot_list_append PySem.F.type_list_append mt_append (pv 3) (pa_cons (pe_bm PySem.F.plainAttrs_list PySem.F.slot_list_pop PySem.F.type_list_pop mt_popAt (pv 2) (pa_cons (pe_cl c_law_pick hr (by decide) (by rfl) (pa_cons (pv 0) (pa_cons (pe_callB (r := rLen K) call_lenY (by rfl) T.len PySem.boot_len (pa_cons (pv 2) pa_nil)) pa_nil))) pa_nil)) pa_nil)))))
    (pss_one (ps_ret (pv 3)))))), ?_⟩
  rintro ds p ⟨n, hn, rfl⟩ De o _ ns
  refine sd_seq (sd_asgO (l := (List.range n).map iD) (ef_is (ef_lstRg1 (ep_var (d := iD n) rfl) (by omega)) (by rw [show ((n : Int)).toNat = n by omega])) (imAll_nD _) fun q1 => sd_go ?_)
  refine sd_seq (sd_asgO (ef_lst ea_nil) rfl fun q2 => sd_go ?_)
  refine sd_seq (sd_forRW (n := (n : Int)) (fun j E => ∃ (ns : List Int) (left names : List Nat), E = [dr p ns, .val (iD n), .own q1 (left.map iD), .own q2 (names.map iD), .no] ∧ names.length = j ∧ (names ++ left).Perm (List.range n))
    (ea_cons (ep_var (d := iD n) rfl) ea_nil) (by omega) ⟨ns, List.range n, [], rfl, rfl, by simp⟩ ?_ ?_)
  · rintro j E hj ⟨ns, left, names, rfl, hnl, hp⟩
    have hlen : left.length = n - j := by
      have := hp.length_eq
      rw [List.length_append, List.length_range] at this
      omega
    have hd : DS (fun ns => [dr p ns, .val (iD n), .own q1 (left.map iD), .own q2 (names.map iD), .val (.int j)]) 0 p := ⟨fun _ => rfl, fun _ _ => rfl⟩
    refine sd_appPop (S := fun ns => [dr p ns, .val (iD n), .own q1 (left.map iD), .own q2 (names.map iD), .val (.int j)]) (jl := 2) (jn := 3) hd (fun _ => rfl) (fun _ => rfl) (by decide)
      (en_pick (b := left.length) hd (fun _ => ec_im (ep_cb (ea_cons (ep_own (i := 2) (l := left.map iD) rfl) ea_nil) rc_lenLn) rfl) (by omega)) ⟨by omega, by omega⟩ (fun ns x hx => ?_) ns
    refine sd_lw (E' := [dr p ns, .val (iD n), .own q1 ((left.eraseIdx x).map iD), .own q2 ((names ++ [left[x]]).map iD), .no]) ⟨ns, _, _, rfl, by simp [hnl], perm_pick hp hx⟩ ?_
    exact .eq (.eq (.eq (.eq (.no .nil))))
  · rintro E ⟨ns, left, names, rfl, hnl, hp⟩
    have hleft : left = [] := by
      have := hp.length_eq
      rw [List.length_append, List.length_range] at this
      exact List.length_eq_zero_iff.mp (by omega)
    rw [hleft, List.append_nil] at hp
    have hd : DS (fun ns => [dr p ns, .val (iD n), .own q1 (left.map iD), .own q2 (names.map iD), .no]) 0 p := ⟨fun _ => rfl, fun _ _ => rfl⟩
    exact sd_go (sd_retDO (S := fun ns => [dr p ns, .val (iD n), .own q1 (left.map iD), .own q2 (names.map iD), .no]) (j := 3) hd rfl (by decide) o fun n' e => by
      have := iD_inj (List.cons.inj e).1
      subst this
      exact ⟨names, hp, rfl⟩)
end
end Y
set_option Elab.async false
set_option linter.all false
set_option autoImplicit false
set_option maxRecDepth 100000
set_option maxHeartbeats 4000000
namespace Y
open PySem L2
/-! what the law may ask of its families -/
theorem gf_in {n : Nat} {L : List (List Nat)} (g : KM.GF n L) (hn : n ≤ 9) : InOk n L := ⟨g.n1, by omega, g.ne, by
  have := KM.gf_len g
  have h2 : 2 ^ n ≤ 2 ^ 9 := Nat.pow_le_pow_right (by decide) hn
  have h3 : (2 : Nat) ^ 9 = 512 := by decide
  omega, g.lne, g.g.asc, g.lt⟩
theorem gf_kept {n : Nat} {L : List (List Nat)} (g : KM.GF n L) (hn : n ≤ 9) (i : Nat) : (keptAt L i).length < 1000 := by
  have h1 := KM.kept_len g.g.asc g.lt i
  have h2 : 2 ^ n ≤ 2 ^ 9 := Nat.pow_le_pow_right (by decide) hn
  have h3 : (2 : Nat) ^ 9 = 512 := by decide
  unfold keptAt
  omega
theorem gf_inv {n : Nat} {L : List (List Nat)} (g : KM.GF n L) (hn : n ≤ 9) : InvOk n L := ⟨gf_in g hn, gf_kept g hn, gf_in (KM.blocker_gf g) hn⟩
theorem gf_least {n : Nat} {L : List (List Nat)} (g : KM.GF n L) : KM.leastLots L = L := KM.least_good g.g
theorem InOk.LL {n : Nat} {L : List (List Nat)} (h : InOk n L) : LL L := ⟨h.len, h.lots.sm⟩
theorem mg_eq {n w : Nat} {names : List Nat} {L : List (List Nat)} (hN : KM.Nms n w names) (g : KM.GF n L) : KM.leastLots (L.map (KM.nm names)) = KM.mg names L := KM.least_eq (KM.mg_in hN g).1
section
variable {P : Program} {w : World} {K : PySem.W.Frag} {mg : Str → Option Value} {base : Heap}
/-! right_merged -/
abbrev s_law_right_merged : Stmt := topS 70
abbrev N_law_right_merged : List Str := ["_law_fam", "_law_size", "_law_lots", "_law_names", "_law_wide", "_law_handed", "_law_told", "_law_due", "_law_those", "_law_under", "_law_thing"]
theorem sc_law_right_merged : FnScope N_law_right_merged ["_law_fam", "_law_size", "_law_lots", "_law_names", "_law_wide"] (defScope s_law_right_merged) := ⟨rfl, rfl, rfl, by decide +kernel, rfl, by decide +kernel, by decide +kernel⟩
def p_rmerged (C : Addr) (ds : List D) (d : D) : Prop := ∃ (n w : Nat) (L : List (List Nat)) (names : List Nat), KM.GF n L ∧ n ≤ 7 ∧ KM.Nms n w names ∧ 1 ≤ w ∧ w ≤ 7 ∧ ds = [famD C n L, iD n, lsD L, nD names, iD w] ∧ d = .bl true
theorem ok_law_right_merged {f C CB CN CM : Addr} {fd : FuncData} (F : Fun K "_law_right_merged" "_law_right_merged" s_law_right_merged f fd) (T : Txt mg) (fc : FamC K mg C) (c_merged : Cl P w K mg base 7 "merged" (PureE K (p_merged C) (q_merged C CN CM))) (c_law_name_sets : Cl P w K mg base 3 "_law_name_sets" (Fresh K p_name_sets)) (c_inv : ClO P w K mg base 7 C "__invert__" (Pure K (p_invert C)))
    (c_eq : ClO P w K mg base 1 C "__eq__" (Pure K (p_eq C))) (hnf : PySem.W.notFirst K C (.ref C) = true) (c_law_subsets : Cl P w K mg base 1 "_law_subsets" (Fresh K p_law_subsets)) (c_holds : ClM P w K mg base 4 C "holds" (PureX K (p_holds C) (q_holds C CB))) (c_law_holdsS : Cl P w K mg base 2 "_law_holds" (Pure K p_holdsS)) :
    FnOk P w K mg base CX0 8 f fd ["_law_fam", "_law_size", "_law_lots", "_law_names", "_law_wide"] (Pure K (p_rmerged C)) := by
  refine pure_ok F sc_law_right_merged (fun ds d h => by obtain ⟨_, _, _, _, _, _, _, _, _, rfl, _⟩ := h; rfl) (by decide) fun cdv A outer s H E hr => ?_
  have hu := hr.units
  refine ⟨_, (pss_cons (ps_set (i := 5) sc_law_right_merged.nd rfl (Or.inl rfl) (pe_callTy (r := rLstOf K) call_lstY (by rfl) T.list (by decide +kernel) (pa_cons (pv 3) pa_nil)))
    (pss_cons (ps_set (i := 6) sc_law_right_merged.nd rfl (Or.inl rfl) (pe_cl c_merged hr (by decide) (by rfl) (pa_cons (pv 0) (pa_cons (pv 5) (pa_cons (pv 4) pa_nil)))))
    (pss_cons (ps_set (i := 7) sc_law_right_merged.nd rfl (Or.inl rfl) (pe_cl c_law_name_sets hr (by decide) (by rfl) (pa_cons (pv 2) (pa_cons (pv 3) pa_nil))))
    (pss_cons (ps_if (pw_or (pt_not (pt_val (pe_callB (r := rIsi K) call_isi (by rfl) T.isinstance (by decide +kernel) (pa_cons (pv 6) (pa_cons (pe_glob (v := .ref C) (by rfl) fc.m rfl) pa_nil))))) (pw_or (pt_cmpR op_ne (pe_fld (pv 6) rfl) (pv 4) (nomark _)) (pw_or (pt_cmpR (r := rNeD K) (op_neD hu) (pe_fld (pv 6) rfl) (pe_callTy (r := rTupOf K) call_tupY (by rfl) T.tuple (by decide +kernel) (pa_cons (pv 7) pa_nil)) (nomark _)) (pw_or1 (pt_cmpR (r := rNeD K) (op_neD hu) (pv 5) (pv 3) (nomark _)))))).pt (pss_one (ps_ret pe_bl)) pss_nil)
    (pss_cons (ps_if (pt_not (pt_cmpR (r := rEqO K C (Pure K (p_eq C))) (op_clO c_eq hnf hr (by decide)) (pe_cl c_merged hr (by decide) (by rfl) (pa_cons (pe_un (r := rInv C (Pure K (p_invert C))) (un_clO c_inv hr (by decide)) (pv 0)) (pa_cons (pe_callTy (r := rTupOf K) call_tupY (by rfl) T.tuple (by decide +kernel) (pa_cons (pv 3) pa_nil)) (pa_cons (pv 4) pa_nil)))) (pe_un (r := rInv C (Pure K (p_invert C))) (un_clO c_inv hr (by decide)) (pv 6)) (nomark _))) (pss_one (ps_ret pe_bl)) pss_nil)
    (pss_cons (ps_for PassesOwn.never rfl (pi_list (pe_cl c_law_subsets hr (by decide) (by rfl) (pa_cons (pv 4) pa_nil))) (pg_name (i := 8) sc_law_right_merged.nd rfl (Or.inr rfl))
    (pss_cons (ps_setLc (i := 9) (own := [("_law_thing", 10)]) (g := gName 10) rfl sc_law_right_merged.nd rfl rfl (sw_true rfl rfl rfl (by decide +kernel)) (pi_range1 (by rfl) T.range (pa_cons (pv 1) pa_nil)) (blkOk_by (N := N_law_right_merged) (sc := defScope s_law_right_merged) (by decide +kernel)) (fun _ _ _ _ _ => pg_name (i := 10) sc_law_right_merged.nd rfl (Or.inl rfl)) (fun _ _ _ _ _ => (pts_one (pt_cmpR (r := rIn K false) op_in_seq (pe_ix (r := rIxL K) ix_list (pv 3) (pv 10) (fun _ _ => rfl)) (pv 8) rfl))) (fun _ _ _ _ _ => (pv 10)))
    (pss_one (ps_if (pt_cmpR op_ne (pe_clM c_holds fc.ob.cl hr (by decide) takes0 (pv 6) (pa_cons (pv 8) pa_nil)) (pe_cl c_law_holdsS hr (by decide) (by rfl) (pa_cons (pv 2) (pa_cons (pv 9) pa_nil))) (nomark _)) (pss_one (ps_ret pe_bl)) pss_nil))))
    (pss_one (ps_ret pe_bl)))))))), ?_⟩
  rintro ds d ⟨n, w', L, names, g, hn, hN, hw1, hw2, rfl, rfl⟩ De o
  have hi := gf_in g (by omega)
  have g2 := KM.mg_gf hN g hw1
  have gb := KM.blocker_gf g
  have gb2 := KM.blocker_gf g2
  have hsq : Seq (nD names) (names.map iD) := .inr rfl
  refine sd_seq (sd_asgL (ef_cb (ea_cons (ep_var (i := 3) (d := nD names) rfl) ea_nil) (rf_list (.inr rfl))) (imAll_nD _) (sd_go ?_))
  refine sd_seq (sd_asg (d := famD C w' (KM.mg names L)) (ep_is (ep_callE (d := famD C w' (KM.leastLots (L.map (KM.nm names)))) (ea_cons (ep_var (i := 0) (d := famD C n L) rfl) (ea_cons (ep_var (i := 5) (d := nD names) rfl) (ea_cons (ep_var (i := 4) (d := iD w') rfl) ea_nil))) ⟨n, w', L, names, _, hi, hN, hw1, by omega, hsq, rfl, rfl⟩) (by rw [mg_eq hN g])) (famD_im _ _ _) (sd_go ?_))
  refine sd_seq (sd_asgL (ef_call (m := (KM.mg names L).map tD) (ea_cons (ep_var (i := 2) (d := lsD L) rfl) (ea_cons (ep_var (i := 3) (d := nD names) rfl) ea_nil)) ⟨n, w', L, names, hi, hN, by omega, rfl, rfl⟩) (imAll_tD _) (sd_go ?_))
  refine sd_seq (sd_if (b := !true || ((w' != w') || (false || false))) (et_or (et_not (et_B (ep_isiO (ep_var (i := 6) (d := famD C w' (KM.mg names L)) rfl) fc.ob))) fun _ => et_or (et_test (ep_op (ep_fld (ep_var (i := 6) (d := famD C w' (KM.mg names L)) rfl) fc.ob.cl fc.nt rfl) (ep_var (i := 4) (d := iD w') rfl) r2_neN))
    fun _ => et_or (et_test (ep_op (ep_fld (ep_var (i := 6) (d := famD C w' (KM.mg names L)) rfl) fc.ob.cl fc.nl rfl) (ep_cb (ea_cons (ep_var (i := 7) (d := lsD (KM.mg names L)) rfl) ea_nil) rc_tupleL) (r2_neD (b := false) (lsD_cmp _).2 (lsD_cmp _).2 ⟨fun h => by (cases h), fun h => absurd rfl h⟩)))
    fun _ => et_test (ep_op (ep_var (i := 5) (d := nD names) rfl) (ep_var (i := 3) (d := nD names) rfl) (r2_neD (b := false) (nD_cmp _) (nD_cmp _) ⟨fun h => by (cases h), fun h => absurd rfl h⟩))) (fun h => by simp at h) (fun _ => sd_go ?_))
  have eInv : ∀ {Z : Hp → Prop} {E : List Slot}, E[0]? = some (.val (famD C n L)) → EP K [] H Z (tUn (rInv C (Pure K (p_invert C))) (tVar 0)) E (famD C n (KM.blockerLots L)) := fun {Z E} h => ep_is (ep_un (ep_var h) (r1_inv ⟨n, L, gf_inv g (by omega), rfl, rfl⟩)) (by rw [gf_least gb])
  have eInv2 : ∀ {Z : Hp → Prop} {E : List Slot}, E[6]? = some (.val (famD C w' (KM.mg names L))) → EP K [] H Z (tUn (rInv C (Pure K (p_invert C))) (tVar 6)) E (famD C w' (KM.blockerLots (KM.mg names L))) := fun {Z E} h => ep_is (ep_un (ep_var h) (r1_inv ⟨w', KM.mg names L, gf_inv g2 (by omega), rfl, rfl⟩)) (by rw [gf_least gb2])
  refine sd_seq (sd_if (et_not (et_test (ep_op (ep_is (ep_callE (d := famD C w' (KM.leastLots ((KM.blockerLots L).map (KM.nm names)))) (ea_cons (eInv rfl) (ea_cons (ep_cb (ea_cons (ep_var (i := 3) (d := nD names) rfl) ea_nil) rc_tupleL) (ea_cons (ep_var (i := 4) (d := iD w') rfl) ea_nil))) ⟨n, w', KM.blockerLots L, names, _, gf_in gb (by omega), hN, hw1, by omega, .inl rfl, rfl, rfl⟩) (by rw [mg_eq hN gb, KM.mg_blk hN g hw1]; rfl)) (eInv2 rfl)
    (r2_eqO ⟨w', w', KM.blockerLots (KM.mg names L), KM.blockerLots (KM.mg names L), rfl, rfl⟩)))) (fun h => by simp at h) (fun _ => sd_go ?_))
  refine sd_seq (sd_forLP (c := tD) (ts := KM.subsets w') (fun _ => True) (ec_new (ef_call (ea_cons (ep_var (i := 4) (d := iD w') rfl) ea_nil) ⟨w', by omega, rfl, rfl⟩) (imAll_tD _)) (fun _ => [.val (famD C n L), .val (iD n), .val (lsD L), .val (nD names), .val (iD w'), .val (nD names), .val (famD C w' (KM.mg names L)), .val (lsD (KM.mg names L)), .no, .no, .no]) rfl trivial (fun Z' i t ht _ => ?_) (fun _ => sd_go (sd_ret ep_bl o.rt)))
  have tm := (KM.subsets_mem w' t).mp (List.mem_of_getElem? ht)
  have h60 : t.length ≤ w' := asc_len tm.1 tm.2
  have tsq : Seq (tD t) (t.map iD) := .inl (tD_eq t)
  refine sd_seq (sd_asgL (l := (KM.under n names t).map iD) (ef_is (ef_lcR (j := 10) (n := (n : Int)) (fun x => decide (names.getD x 0 ∈ t)) iD (ea_cons (ep_var (i := 1) (d := iD n) rfl) ea_nil) (by omega) (fun x hx => et_test (ep_op (ep_op (ep_var (i := 3) (d := nD names) rfl) (ep_var (i := 10) (d := iD x) rfl) (r2_ixL (atNm (by rw [hN.len]; omega)))) (ep_var (i := 8) (d := tD t) rfl) (r2_inS tsq))) (fun x _ _ => ep_var (i := 10) rfl) (fun _ _ _ => rfl)) (by unfold KM.under; rw [show ((n : Int)).toNat = n by omega])) (imAll_nD _) (sd_go ?_))
  have tnd : t.Nodup := tm.1.imp fun h => Nat.ne_of_lt h
  have hold : holdsM (KM.mg names L) t = KM.holds L (KM.under n names t) := by
    unfold holdsM
    rw [KM.mask_holds g2.g.asc tnd, KM.mg_holds hN g]
  refine sd_if (et_test (ep_op (ep_meS (ns := ["things", "lots"]) (ep_var (i := 6) (d := famD C w' (KM.mg names L)) rfl) (by decide) (ea_cons (ep_var (i := 8) (d := tD t) rfl) ea_nil) ⟨w', KM.mg names L, t, _, gf_in g2 (by omega), ⟨by omega, tnd, tm.2⟩, tsq, rfl, rfl⟩) (ep_call (ea_cons (ep_var (i := 2) (d := lsD L) rfl) (ea_cons (ep_var (i := 9) (d := nD (KM.under n names t)) rfl) ea_nil)) ⟨L, KM.under n names t, _, hi.LL, .inr rfl, rfl, rfl⟩) r2_neB)) (fun h => ?_) (fun _ => sd_lp trivial (.eq (.eq (.eq (.eq (.eq (.eq (.eq (.eq (.no (.no (.no .nil))))))))))))
  rw [hold] at h
  simp at h
/-! names_word -/
abbrev s_law_names_word : Stmt := topS 72
abbrev N_law_names_word : List Str := ["_law_fam", "_law_names", "_law_wide", "_law_way", "_law_word", "why"]
theorem sc_law_names_word : FnScope N_law_names_word ["_law_fam", "_law_names", "_law_wide", "_law_way"] (defScope s_law_names_word) := ⟨rfl, rfl, rfl, by decide +kernel, rfl, by decide +kernel, by decide +kernel⟩
def wI (a : Str) (k : Int) : D := .tup [.str a, .int k]
def wS (a b : Str) : D := .tup [.str a, .str b]
inductive Way (C CN CM : Addr) (fam s wd : D) : Nat → D → Prop
  | good {d : D} (h : p_merged C [fam, s, wd] d) : Way C CN CM fam s wd 0 (wI "good" 0)
  | number {t : Str} (h : q_merged C CN CM [fam, s, wd] CN (xW t)) : Way C CN CM fam s wd 0 (wS "number" t)
  | names {k : Int} (h : q_merged C CN CM [fam, s, wd] CM (xP k)) : Way C CN CM fam s wd 0 (wI "names" k)
  | good1 {d : D} (h : p_renamed C [fam, s] d) : Way C CN CM fam s wd 1 (wI "good" 0)
  | names1 {k : Int} (h : q_renamed C CM [fam, s] CM (xP k)) : Way C CN CM fam s wd 1 (wI "names" k)
def p_nword (C CN CM : Addr) (ds : List D) (d : D) : Prop := ∃ (fam s wd : D) (way : Nat), Way C CN CM fam s wd way d ∧ ds = [fam, s, wd, iD way]
theorem wI_im (a : Str) (k : Int) : (wI a k).im = true := rfl
theorem exmK {P : Program} {K : PySem.W.Frag} {C f : Addr} {t : Str} (c : ExcK K P C f t) : PySem.W.exmOne K (.ref C) (.ref C) = some true := by
  obtain ⟨cd, hc, _⟩ := PySem.W.any_some c.hd
  unfold PySem.W.exmOne
  rw [c.exC, if_pos (by decide)]
  unfold PySem.W.kitCls
  show (if ((PySem.W.clsIn K C).isSome && PySem.W.typeIn K (.ref C) == some (.type "type")) = true then PySem.W.mroIn K C (.ref C) else none) = some true
  rw [hc, c.tyC, c.slf]
  rfl
theorem exmS {P : Program} {K : PySem.W.Frag} {C f : Addr} {t : Str} (c : ExcS K P C f t) : PySem.W.exmOne K (.ref C) (.ref C) = some true := by
  obtain ⟨cd, hc, _⟩ := PySem.W.any_some c.hd
  unfold PySem.W.exmOne
  rw [c.exC, if_pos (by decide)]
  unfold PySem.W.kitCls
  show (if ((PySem.W.clsIn K C).isSome && PySem.W.typeIn K (.ref C) == some (.type "type")) = true then PySem.W.mroIn K C (.ref C) else none) = some true
  rw [hc, c.tyC, c.slf]
  rfl
/-- an exception of C2 is none of C -/
theorem exmN {P : Program} {K : PySem.W.Frag} {C f C2 f2 : Addr} {t t2 : Str} (c : ExcK K P C f t) (c2 : ExcS K P C2 f2 t2) (h : PySem.W.mroIn K C2 (.ref C) = some false) : PySem.W.exmOne K (.ref C2) (.ref C) = some false := by
  obtain ⟨cd, hc, _⟩ := PySem.W.any_some c.hd
  unfold PySem.W.exmOne
  rw [c.exC, if_pos (by decide)]
  unfold PySem.W.kitCls
  show (if ((PySem.W.clsIn K C).isSome && PySem.W.typeIn K (.ref C) == some (.type "type")) = true then PySem.W.mroIn K C2 (.ref C) else none) = some false
  rw [hc, c.tyC, h]
  rfl
end
end Y
set_option Elab.async false
set_option linter.all false
set_option autoImplicit false
set_option maxRecDepth 100000
set_option maxHeartbeats 4000000
namespace Y
open PySem L2
section
variable {K : PySem.W.Frag} {H : Hp} {Z : Hp → Prop} {E : List Slot} {De : Ends}
/-- except C as n: word = (a0, n.f) -/
theorem wx_word {i j : Nat} {a0 f : Str} {C : Addr} {v : V} {dv : D} (hv : ∀ H, Is K H v dv) (im : dv.im = true) (hij : i ≠ j) (hi : i < E.length) (k : SD K [] H Z tNext De ((E.set j (.val (.tup [.str a0, dv]))).set i .no)) :
    ∀ σ H', Env K [] H Z E σ H' → ∀ d, H' d = some (.xd [(f, v)]) → ∀ a, H' a = none → tAsg (tTup (tCons (tC (.str a0)) (tCons (tXf a (.ref C) (some d) C f (tVar i)) tNil))) (gName j) (unb De i) (σ.set i (some (.ref a))) H' := fun σ H' env d hd a na => by
  have hlen : σ.length = E.length := env.len
  have h5 : (σ.set i (some (V.ref a)))[i]? = some (some (V.ref a)) := List.getElem?_set_self (by rw [hlen]; exact hi)
  refine ⟨_, h5, rfl, rfl, d, [(f, v)], v, rfl, hd, by rw [L2.lookup_put, if_pos rfl], by simp [sizeLine_eq], fun p np' => ?_⟩
  have hs : Is K (upd H' p (.tup [.str a0, v])) (.ref p) (.tup [.str a0, dv]) := .tup (SqT.of upd_same) (.cons (.str _) (.cons (hv _) .nil))
  have e2 := ((env.ext (Ex.new np')).set (i := j) hs (by show (true && (dv.im && true)) = true; rw [im]; rfl)).setNo i
  have es : ((σ.set i (some (V.ref a))).set j (some (V.ref p))).set i none = (σ.set j (some (V.ref p))).set i none := by
    rw [List.set_comm _ _ hij, List.set_set]
  show De.nx (((σ.set i (some (V.ref a))).set j (some (V.ref p))).set i none) _
  rw [es]
  exact k _ _ e2
end
section
variable {P : Program} {w : World} {K : PySem.W.Frag} {mg : Str → Option Value} {base : Heap}
theorem ok_law_names_word {f C CN fN CM fM CT : Addr} {fd : FuncData} (F : Fun K "_law_names_word" "_law_names_word" s_law_names_word f fd) (T : Txt mg) (xM : XcK P K mg "BadNames" "bad names: place " CM fM) (xN : XcS P K mg "BadNumber" "bad number: " CN fN) (hT : mg "Trouble" = some (.ref CT)) (xfM : XfC K CM) (npM : PySem.W.findIn K (.ref CM) "place" = some none)
    (xfN : XfC K CN) (npN : PySem.W.findIn K (.ref CN) "word" = some none) (nNM : PySem.W.mroIn K CN (.ref CM) = some false)
    (c_merged : ClX P w K mg base 7 "merged" (PureE K (p_merged C) (q_merged C CN CM))) (c_renamed : ClX P w K mg base 7 "renamed" (PureE K (p_renamed C) (q_renamed C CM))) : FnOk P w K mg base CX0 8 f fd ["_law_fam", "_law_names", "_law_wide", "_law_way"] (Pure K (p_nword C CN CM)) := by
  refine pure_ok F sc_law_names_word (fun ds d h => by obtain ⟨_, _, _, _, _, rfl⟩ := h; rfl) (by decide) fun cdv A outer s H E hr => ?_
  refine ⟨_, (pss_cons (ps_set (i := 4) sc_law_names_word.nd rfl (Or.inl rfl) (pe_tup (pa_cons pe_str (pa_cons pe_int pa_nil))))
    (pss_cons (ps_try_manyA rfl rfl sc_law_names_word.nd takes0
      (fun W pn xe tk _ => pss_one (ps_if (pt_cmpR op_eq (pv 3) pe_int (nomark _)) (pss_one (ps_expr (pe_clX c_merged hr (by decide) (by rfl) tk (pa_cons (pv 0) (pa_cons (pv 1) (pa_cons (pv 2) pa_nil)))))) (pss_one (ps_expr (pe_clX c_renamed hr (by decide) (by rfl) tk (pa_cons (pv 0) (pa_cons (pv 1) pa_nil)))))))
      (.nam (i := 5) (c := .ref CM) rfl rfl ⟨by rfl, by decide, .inl xM.m⟩ (fun a oe cls d pn hz hf => pss_one (ps_set (i := 4) sc_law_names_word.nd rfl (Or.inl rfl) (pe_tup (pa_cons pe_str (pa_cons (pe_xf xfM npM hz hf (pv 5)) pa_nil)))))
      (.nam (i := 5) (c := .ref CN) rfl rfl ⟨by rfl, by decide, .inl xN.m⟩ (fun a oe cls d pn hz hf => pss_one (ps_set (i := 4) sc_law_names_word.nd rfl (Or.inl rfl) (pe_tup (pa_cons pe_str (pa_cons (pe_xf xfN npN hz hf (pv 5)) pa_nil)))))
      (.one (c := .ref CT) ⟨by rfl, by decide, .inl hT⟩ (fun a oe cls d pn hz hf => pss_one (ps_set (i := 4) sc_law_names_word.nd rfl (Or.inl rfl) (pe_tup (pa_cons pe_str (pa_cons pe_int pa_nil))))) .nil))))
    (pss_one (ps_ret (pv 4))))), ?_⟩
  rintro ds d ⟨fam, sq, wd, way, hw, rfl⟩ De o
  refine sd_seq (sd_asg (d := wI "good" 0) (ep_tup (ea_cons ep_str (ea_cons ep_int ea_nil))) rfl (sd_go ?_))
  refine sd_seq ?_
  have fin : ∀ {Z : Hp → Prop} {w' : D}, w' = d → SD K [] H Z (tRet (tVar 4)) De [.val fam, .val sq, .val wd, .val (iD way), .val w', .no] := fun {Z w'} e => sd_ret (ep_is (ep_var (i := 4) (d := w') rfl) e) o.rt
  cases hw with
  | good h =>
    refine sd_if (et_test (ep_op (ep_var (i := 3) (d := iD 0) rfl) ep_n0 r2_eqN)) (fun _ => ?_) (fun h => by cases h)
    exact sd_drop (ep_callES (ea_cons (ep_var (i := 0) (d := fam) rfl) (ea_cons (ep_var (i := 1) (d := sq) rfl) (ea_cons (ep_var (i := 2) (d := wd) rfl) ea_nil))) h) (sd_go (fin rfl))
  | @number t h =>
    refine sd_if (et_test (ep_op (ep_var (i := 3) (d := iD 0) rfl) ep_n0 r2_eqN)) (fun _ => ?_) (fun h => by cases h)
    refine sd_dropR (er_callE (ea_cons (ep_var (i := 0) (d := fam) rfl) (ea_cons (ep_var (i := 1) (d := sq) rfl) (ea_cons (ep_var (i := 2) (d := wd) rfl) ea_nil))) h fun σ H' env d hd => ?_)
    refine ⟨false, exmN xM.c xN.c nNM, ?_, ?_⟩
    · intro z
      cases z
    intro _
    refine ⟨true, exmS xN.c, ?_, ?_⟩
    rotate_left
    · intro z
      cases z
    intro _ a na
    exact wx_word (v := .str t) (dv := .str t) (fun _ => .str t) rfl (by decide) (by show 5 < 6; decide) (sd_go (fin rfl)) σ H' env d hd a na
  | @names k h =>
    refine sd_if (et_test (ep_op (ep_var (i := 3) (d := iD 0) rfl) ep_n0 r2_eqN)) (fun _ => ?_) (fun h => by cases h)
    refine sd_dropR (er_callE (ea_cons (ep_var (i := 0) (d := fam) rfl) (ea_cons (ep_var (i := 1) (d := sq) rfl) (ea_cons (ep_var (i := 2) (d := wd) rfl) ea_nil))) h fun σ H' env d hd => ?_)
    refine ⟨true, exmK xM.c, ?_, ?_⟩
    rotate_left
    · intro z
      cases z
    intro _ a na
    exact wx_word (v := .int k) (dv := .int k) (fun _ => .int k) rfl (by decide) (by show 5 < 6; decide) (sd_go (fin rfl)) σ H' env d hd a na
  | good1 h =>
    refine sd_if (et_test (ep_op (ep_var (i := 3) (d := iD 1) rfl) ep_n0 r2_eqN)) (fun h => by cases h) (fun _ => ?_)
    exact sd_drop (ep_callES (ea_cons (ep_var (i := 0) (d := fam) rfl) (ea_cons (ep_var (i := 1) (d := sq) rfl) ea_nil)) h) (sd_go (fin rfl))
  | @names1 k h =>
    refine sd_if (et_test (ep_op (ep_var (i := 3) (d := iD 1) rfl) ep_n0 r2_eqN)) (fun h => by cases h) (fun _ => ?_)
    refine sd_dropR (er_callE (ea_cons (ep_var (i := 0) (d := fam) rfl) (ea_cons (ep_var (i := 1) (d := sq) rfl) ea_nil)) h fun σ H' env d hd => ?_)
    refine ⟨true, exmK xM.c, ?_, ?_⟩
    rotate_left
    · intro z
      cases z
    intro _ a na
    exact wx_word (v := .int k) (dv := .int k) (fun _ => .int k) rfl (by decide) (by show 5 < 6; decide) (sd_go (fin rfl)) σ H' env d hd a na
end
end Y
set_option Elab.async false
set_option linter.all false
set_option autoImplicit false
set_option maxRecDepth 100000
set_option maxHeartbeats 1000000
/-! A call that is not shown some lists: they stay, and what comes back stands apart from them. -/
namespace Y
open PySem L2
/-- H with its lists at O as in H0 -/
def back (O : List Addr) (H0 H : Hp) : Hp := fun a => if a ∈ O then H0 a else H a
section
variable {P : Program} {w : World} {K : PySem.W.Frag} {mg : Str → Option Value} {base : Heap} {k : Nat} {f : Addr} {fd : FuncData} {ps : List Str} {sp : Sp}
theorem hid_in {O : List Addr} {H : Hp} {a : Addr} (h : a ∈ O) : hid O H a = none := by simp [hid, h]
theorem obj_hid {O : List Addr} {H : Hp} {h : Heap} {a : Addr} {o : HO} (hO : Lsts O H) (x : ObjOk P w H h a o) : ObjOk P w (hid O H) h a o :=
  x.stay (fun _ _ _ q => q) (fun b q => by rw [hid_at fun m => by obtain ⟨xs, e⟩ := hO b m; rw [e] at q; cases q]; exact q) (fun b xs q => by rw [hid_at fun m => by obtain ⟨ys, e⟩ := hO b m; rw [e] at q; cases q]; exact q)
theorem FnOk.framed (F : FnOk P w K mg base CX0 k f fd ps sp) : FnOk P w K mg base CX0 k f fd ps (fun vs H Q E => ∃ O : List Addr, Lsts O H ∧ sp vs (hid O H) (fun v H' => (∀ a ∈ O, H' a = none) → Q v (back O H H')) E) := by
  refine ⟨fun vs H Q E ⟨O, _, h⟩ => F.len _ _ _ _ h, fun A outer s H args us vs Q E hr e0 hb r ⟨O, hO, h⟩ => ?_⟩
  have e1 : Env0 P w K mg base A outer s (hid O H) := ⟨e0.frames, e0.mod, fun b o e => ⟨(e0.bs b o e).1, by unfold Y.hid; split; rfl; exact (e0.bs b o e).2⟩, e0.bsz, e0.funs, fun b hb => by unfold Y.hid; split; rfl; exact e0.frf b hb, fun a o q => obj_hid hO (e0.hok a o (hid_some q).2), e0.bare⟩
  refine codeAny_mono (F.run A outer s (hid O H) args us vs _ E hr e1 hb r h) fun r s' hq => ?_
  cases r with
  | error e => exact hq
  | ok fl =>
    cases fl with
    | next => exact hq
    | brk => exact hq
    | cont => exact hq
    | ret u =>
      obtain ⟨v, H', h1, h2, un, hk, rv, q⟩ := hq
      have lst : ∀ a ∈ O, ∃ o, s.heap.get? a = some o := fun a ha => by
        obtain ⟨xs, e⟩ := hO a ha
        obtain ⟨_, _, _, _, z⟩ := (e0.hok a _ e : ObjOk P w H s.heap a (.lst xs))
        exact ⟨_, z⟩
      have gone : ∀ a ∈ O, H' a = none := fun a ha => by
        obtain ⟨o, ho⟩ := lst a ha
        exact un.free a o ho (hid_in ha) (by simp)
      have bk : ∀ {a : Addr}, a ∉ O → back O H H' a = H' a := fun {a} h => by unfold back; rw [if_neg h]
      have bi : ∀ {a : Addr}, a ∈ O → back O H H' a = H a := fun {a} h => by unfold back; rw [if_pos h]
      have nO : ∀ {a : Addr} {o : HO}, H a = some o → (∀ xs, o ≠ .lst xs) → a ∉ O := fun {a o} e ho m => by
        obtain ⟨xs, q⟩ := hO a m
        rw [e] at q
        exact ho xs (Option.some.inj q)
      have hN : ∀ {b : Addr}, H b = none → hid O H b = none := fun {b} n => by unfold Y.hid; split; rfl; exact n
      refine ⟨v, back O H H', h1, h2, ⟨fun b o e n => un.keep b o e (hN n), fun b o e n => un.slot b o e (hN n), fun b o e n hx => ?_, un.there, fun b xs e => ?_, fun b o u e => ?_, fun b xs e => ?_⟩, fun a o e => ?_, rv, q gone⟩
      · have nb : b ∉ O := fun m => by obtain ⟨xs, q⟩ := hO b m; rw [n] at q; cases q
        rw [bk nb]
        exact un.free b o e (hN n) hx
      · have nb := nO e fun _ z => by cases z
        rw [bk nb]
        exact un.tups b xs (by rw [hid_at nb]; exact e)
      · have nb := nO e fun _ z => by cases z
        rw [bk nb]
        exact un.frzs b o u (by rw [hid_at nb]; exact e)
      · have nb := nO e fun _ z => by cases z
        rw [bk nb]
        exact un.tbls b xs (by rw [hid_at nb]; exact e)
      · by_cases ha : a ∈ O
        · rw [bi ha] at e
          obtain ⟨xs, q⟩ := hO a ha
          rw [e] at q
          cases q
          obtain ⟨z, its, n, rv', eh⟩ := (e0.hok a _ e : ObjOk P w H s.heap a (.lst xs))
          exact ⟨z, its, n, rv', un.keep a _ eh (hid_in ha) (fun m => by have := e0.frf a m; rw [this] at e; cases e) (by simp)⟩
        · rw [bk ha] at e
          have nb : ∀ {b : Addr} {o : HO}, H' b = some o → b ∉ O := fun {b o} q m => by rw [gone b m] at q; cases q
          exact (hk a o e).stay (fun _ _ _ q => q) (fun b q => by rw [bk (nb q)]; exact q) (fun b xs q => by rw [bk (nb q)]; exact q)
theorem back_ex {O : List Addr} {H H' : Hp} (e : Ex (hid O H) H') : Ex H (back O H H') := fun a o h => by
  unfold back
  split
  · exact h
  · rename_i n
    exact e a o (by rw [hid_at n]; exact h)
theorem back_hid {O : List Addr} {H H' : Hp} (g : ∀ a ∈ O, H' a = none) : Ex H' (hid O (back O H H')) := fun a o h => by
  have n : a ∉ O := fun m => by rw [g a m] at h; cases h
  rw [hid_at n]
  unfold back
  rw [if_neg n]
  exact h
/-- the promise: from data apart from the lists at O a datum apart from them -/
def PureA (K : PySem.W.Frag) (pre : List D → D → Prop) : Sp := fun vs H Q _ => ∃ (O : List Addr) (ds : List D) (d : D), Lsts O H ∧ IsAll K (hid O H) vs ds ∧ pre ds d ∧ ∀ v H', Ex H H' → Is K (hid O H') v d → Q v H'
theorem FnOk.apart {pre : List D → D → Prop} (F : FnOk P w K mg base CX0 k f fd ps (Pure K pre)) : FnOk P w K mg base CX0 k f fd ps (PureA K pre) :=
  (FnOk.framed F).imp fun vs H Q E ⟨O, ds, d, hO, h1, h2, h3⟩ => ⟨O, hO, ds, d, h1, h2, fun v H' e i g => h3 v _ (back_ex e) (i.mono (back_hid g))⟩
/-- a def that draws and takes nothing else: what comes back stands apart from all lists that there were -/
def DrawA (K : PySem.W.Frag) (pre : List D → D → Prop) : Sp := fun vs H Q _ => ∃ p O ns, vs = [.ref p] ∧ H p = some (iv ns) ∧ p ∉ O ∧ Lsts O H ∧ ∀ v H' d ns', Drw H H' p → H' p = some (iv ns') → Is K (hid (p :: O) H') v d → pre [] d → Q v H'
theorem FnOk.drawA {ok : List D → Prop} {pre : List D → D → Prop} (hok : ok []) (F : FnOk P w K mg base CX0 k f fd ps (DrawP K ok pre)) : FnOk P w K mg base CX0 k f fd ps (DrawA K pre) :=
  (FnOk.framed F).imp fun vs H Q E ⟨p, O, ns, ev, hp, np, hO, h3⟩ => ⟨O, hO, p, [], [], ns, ev, by rw [hid_at np]; exact hp, .nil, hok, fun v H' d ns' dw hp' hi hpre g => h3 v _ d ns' (fun a o n h => by
    unfold back
    split
    · exact h
    · rename_i m
      exact dw a o n (by rw [hid_at m]; exact h)) (by unfold back; rw [if_neg np]; exact hp') (hi.mono fun a o h => by
      obtain ⟨h1, h2⟩ := hid_some h
      have n : a ∉ O := fun m => by rw [g a m] at h2; cases h2
      rw [hid_at (by intro z; rcases List.mem_cons.mp z with z | z; exact h1 (by simp [z]); exact n z)]
      unfold back
      rw [if_neg n]
      exact h2) hpre⟩
end
section
variable {K : PySem.W.Frag} {B : List Addr} {H0 : Hp} {Z : Hp → Prop} {E : List Slot} {ea : TA} {d : D} {l : List D}
theorem ec_callA {pre : List D → D → Prop} {ex : XK} (h : EAC K B H0 Z ea E l) (hp : pre l d) : EC K B H0 Z (tCall (PureA K pre) [] ex ea) E d := fun σ H e Q q =>
  h σ H e _ fun vs H1 e1 h1 => ⟨ows E, l, d, (e.ext e1).lsts, by rw [List.append_nil]; exact h1, hp, fun v H2 e2 h2 => q v H2 (e1.trans e2) h2⟩
end
end Y
set_option Elab.async false
set_option linter.all false
set_option autoImplicit false
set_option maxRecDepth 100000
set_option maxHeartbeats 4000000
namespace Y
open PySem L2
/-- [n, lots] of at most four things -/
def Fam4 (d : D) : Prop := ∃ (n : Nat) (ls : List (List Nat)), KM.GF n ls ∧ n ≤ 4 ∧ d = famL n ls
def p_fam4 (_ : List D) (d : D) : Prop := Fam4 d
section
variable {P : Program} {w : World} {K : PySem.W.Frag} {mg : Str → Option Value} {base : Heap}
theorem ok_law_small4 {f : Addr} {fd : FuncData} (F : Fun K "_law_small" "_law_small" s_law_small f fd) (T : Txt mg) (c_law_pick : Cl P w K mg base 1 "_law_pick" (PickP K)) (c_law_sized : Cl P w K mg base 2 "_law_sized" (Fresh K p_law_sized)) (c_law_mixed_lots : Cl P w K mg base 3 "_law_mixed_lots" (DrawP K ok_mix p_mixed))
    (c_law_fan : Cl P w K mg base 1 "_law_fan" (Fresh K p_law_fan)) (c_law_chosen : Cl P w K mg base 2 "_law_chosen" (DrawP K ok_ch p_chosen)) : FnOk P w K mg base CX0 4 f fd ["_law_draws_here"] (DrawP K ok_0 p_fam4) := by
  refine draw_ok F sc_law_small (fun ds h => by cases h; rfl) (by decide) fun cdv A outer s H E hr => ?_
  have hu := hr.units
  refine ⟨_, (pss_cons (ps_set (i := 1) sc_law_small.nd rfl (Or.inl rfl) (pe_cl c_law_pick hr (by decide) (by rfl) (pa_cons (pv 0) (pa_cons pe_int pa_nil))))
    (pss_cons (ps_if (pt_cmpR (r := rIn K false) op_in_seq (pv 1) (pe_tup (pa_cons pe_int (pa_cons pe_int pa_nil))) rfl) (pss_one (ps_ret (pe_lst (pa_cons pe_int (pa_cons (pe_cl c_law_sized hr (by decide) (by rfl) (pa_cons pe_int (pa_cons pe_int pa_nil))) pa_nil))))) pss_nil)
    (pss_cons (ps_if (pt_cmpR op_eq (pv 1) pe_int (nomark _)) (pss_cons (ps_set (i := 2) sc_law_small.nd rfl (Or.inl rfl) (pe_op op_add pe_int (pe_cl c_law_pick hr (by decide) (by rfl) (pa_cons (pv 0) (pa_cons pe_int pa_nil)))))
    (pss_one (ps_ret (pe_lst (pa_cons (pv 2) (pa_cons (pe_cl c_law_mixed_lots hr (by decide) (by rfl) (pa_cons (pv 0) (pa_cons (pv 2) pa_nil))) pa_nil)))))) pss_nil)
    (pss_cons (ps_if (pt_cmpR op_eq (pv 1) pe_int (nomark _)) (pss_one (ps_ret (pe_lst (pa_cons pe_int (pa_cons (pe_callB (r := rSortY K) (cr_sortY hu) (by rfl) T.sorted (by decide +kernel) (pa_cons (pe_lst (pa_cons (pe_tup (pa_cons pe_int (pa_cons pe_int pa_nil))) (pa_cons (pe_tup (pa_cons pe_int (pa_cons pe_int pa_nil))) (pa_cons (pe_tup (pa_cons pe_int (pa_cons pe_int pa_nil))) (pa_cons (pe_tup (pa_cons pe_int (pa_cons pe_int pa_nil))) pa_nil))))) pa_nil)) pa_nil))))) pss_nil)
    (pss_cons (ps_if (pt_cmpR op_eq (pv 1) pe_int (nomark _)) (pss_one (ps_ret (pe_lst (pa_cons pe_int (pa_cons (pe_cl c_law_fan hr (by decide) (by rfl) (pa_cons pe_int pa_nil)) pa_nil))))) pss_nil)
    (pss_cons (ps_if (pt_cmpR op_eq (pv 1) pe_int (nomark _)) (pss_one (ps_ret (pe_lst (pa_cons pe_int (pa_cons (pe_cl c_law_sized hr (by decide) (by rfl) (pa_cons pe_int (pa_cons (pe_op op_add pe_int (pe_cl c_law_pick hr (by decide) (by rfl) (pa_cons (pv 0) (pa_cons pe_int pa_nil)))) pa_nil))) pa_nil))))) pss_nil)
    (pss_cons (ps_if (pt_cmpR op_eq (pv 1) pe_int (nomark _)) (pss_one (ps_ret (pe_lst (pa_cons pe_int (pa_cons (pe_cl c_law_chosen hr (by decide) (by rfl) (pa_cons (pv 0) (pa_cons (pe_cl c_law_sized hr (by decide) (by rfl) (pa_cons pe_int (pa_cons pe_int pa_nil))) (pa_cons pe_int pa_nil)))) pa_nil))))) pss_nil)
    (pss_one (ps_ret (pe_lst (pa_cons (pe_op op_add pe_int (pe_cl c_law_pick hr (by decide) (by rfl) (pa_cons (pv 0) (pa_cons pe_int pa_nil)))) (pa_cons (pe_lst (pa_cons (pe_tup (pa_cons pe_int pa_nil)) pa_nil)) pa_nil)))))))))))), ?_⟩
  rintro ds p rfl De o _ ns
  have hd0 : DS (fun ns => [dr p ns, .no, .no]) 0 p := ⟨fun _ => rfl, fun _ _ => rfl⟩
  refine sd_seq (sd_asgN (S := fun ns => [dr p ns, .no, .no]) hd0 (en_pick (b := 8) hd0 (fun _ => ec_int) (by decide)) (fun d ns hdp => sd_go ?_) ns)
  obtain ⟨x, hx, rfl⟩ := hdp
  have hd : DS (fun ns => [dr p ns, .val (iD x), .no]) 0 p := ⟨fun _ => rfl, fun _ _ => rfl⟩
  have ho : ∀ ns, ows ((fun ns => [dr p ns, .val (iD x), .no]) ns) = [p] := fun _ => rfl
  have sized : ∀ (n k : Nat) {Z : Hp → Prop} {E : List Slot}, n ≤ 12 → 1 ≤ k → EC K [p] H Z (tCall (Fresh K p_law_sized) [] E0 (tCons (tC (.int n)) (tCons (tC (.int k)) tNil))) E (lsD (KM.sized n k)) := fun n k {Z E} hn hk =>
    ec_new (ef_call (ea_cons ep_int (ea_cons ep_int ea_nil)) ⟨n, k, hn, hk, rfl, rfl⟩) (imAll_tD _)
  have tup : ∀ (a b : Nat) {Z : Hp → Prop} {E : List Slot}, EP K [p] H Z (tTup (tCons (tC (.int a)) (tCons (tC (.int b)) tNil))) E (tD [a, b]) := fun a b {Z E} => ep_tup (ea_cons ep_int (ea_cons ep_int ea_nil)) (by simp [zs])
  refine sd_seq (sd_if (et_in2 (k1 := 0) (k2 := 5) rfl rfl rfl) (fun _ => ?_) (fun _ => sd_go ?_))
  · exact sd_retD (S := fun ns => [dr p ns, .val (iD x), .no]) hd (ec_fam (n := 3) ec_int (sized 3 2 (by decide) (by decide))) o ⟨3, _, KM.sized_gf (by decide) (by decide), by decide, rfl⟩
  refine sd_seq (sd_if (et_eqN (k := 1) rfl rfl) (fun _ => ?_) (fun _ => sd_go ?_))
  · refine sd_seq (sd_asgN (S := fun ns => [dr p ns, .val (iD x), .no]) hd (en_op (P1 := fun d => d = iD 3) (P2 := fun _ d => ∃ x, x < 2 ∧ d = iD x) (P := fun d => ∃ n, 3 ≤ n ∧ n ≤ 4 ∧ d = iD n) hd (en_ec (d := iD 3) (fun _ => ec_int) hd rfl) (fun _ _ => en_pick (b := 2) hd (fun _ => ec_int) (by decide)) (fun a b h1 h2 => by
      obtain ⟨c, hc, rfl⟩ := h2
      subst h1
      exact ⟨_, r2_int (g := fun i j => i + j), rfl, 3 + c, by omega, by omega, by show D.int ((3 : Int) + (c : Int)) = D.int ((3 + c : Nat) : Int); congr 1⟩)) (fun d ns hdp => sd_go ?_) ns)
    obtain ⟨n, hn1, hn2, rfl⟩ := hdp
    have hd2 : DS (fun ns => [dr p ns, .val (iD x), .val (iD n)]) 0 p := ⟨fun _ => rfl, fun _ _ => rfl⟩
    refine sd_retDN (S := fun ns => [dr p ns, .val (iD x), .val (iD n)]) (P := Fam4) hd2 (en_fam (PA := fun d => d = iD n) (PB := fun _ d => ∃ fs, fs ≠ [] ∧ (∀ l ∈ fs, Lot1 n l) ∧ d = lsD (KM.leastL fs)) hd2 (en_ec (d := iD n) (fun _ => ec_var rfl) hd2 rfl) (fun _ _ => en_draw hd2 (fun _ => eac_cons (ec_var (d := iD n) rfl) eac_nil) ⟨n, by omega, by omega, rfl⟩ (fun d h => h n rfl) (.inr fun _ => rfl))
      (fun d d' h1 h2 => ?_)) o (fun d h => h) ns
    obtain ⟨fs, f1, f2, rfl⟩ := h2
    subst h1
    exact ⟨n, _, KM.least_gf (by omega) f1 (fun l hl => (f2 l hl).asc) (fun l hl => (f2 l hl).ne) (fun l hl => (f2 l hl).lt), by omega, rfl⟩
  refine sd_seq (sd_if (et_eqN (k := 2) rfl rfl) (fun _ => ?_) (fun _ => sd_go ?_))
  · refine sd_retD (S := fun ns => [dr p ns, .val (iD x), .no]) hd (ec_fam (n := 4) ec_int (ec_new (ef_cb (ea_cons (EF.p (ef_lst (ea_cons (tup 0 1) (ea_cons (tup 0 2) (ea_cons (tup 0 3) (ea_cons (tup 1 2) ea_nil)))))) ea_nil) (rf_sortY (ts := [[0, 1], [0, 2], [0, 3], [1, 2]]) (.inr (by decide)))) (imAll_tD _))) o ⟨4, _, KM.four, by decide, rfl⟩
  refine sd_seq (sd_if (et_eqN (k := 3) rfl rfl) (fun _ => ?_) (fun _ => sd_go ?_))
  · exact sd_retD (S := fun ns => [dr p ns, .val (iD x), .no]) hd (ec_fam (n := 4) ec_int (ec_new (ef_call (ea_cons (ep_int (i := ((4 : Nat) : Int))) ea_nil) ⟨4, by decide, by decide, rfl, rfl⟩) (imAll_tD _))) o ⟨4, _, KM.fan4, by decide, rfl⟩
  refine sd_seq (sd_if (et_eqN (k := 4) rfl rfl) (fun _ => ?_) (fun _ => sd_go ?_))
  · refine sd_retDN (S := fun ns => [dr p ns, .val (iD x), .no]) (P := Fam4) hd (en_fam (PA := fun d => d = iD 4) (PB := fun _ d => ∃ k, 2 ≤ k ∧ k ≤ 3 ∧ d = lsD (KM.sized 4 k)) hd (en_ec (d := iD 4) (fun _ => ec_int) hd rfl)
      (fun _ _ => en_callF (PA := fun l => ∃ k, 2 ≤ k ∧ k ≤ 3 ∧ l = [iD 4, iD k]) hd (ena_cons (P1 := fun d => d = iD 4) (P2 := fun _ l => ∃ k, 2 ≤ k ∧ k ≤ 3 ∧ l = [iD k]) hd (en_ec (d := iD 4) (fun _ => ec_int) hd rfl)
        (fun _ _ => ena_cons (P1 := fun d => ∃ k, 2 ≤ k ∧ k ≤ 3 ∧ d = iD k) (P2 := fun _ l => l = []) hd (en_op (P1 := fun d => d = iD 2) (P2 := fun _ d => ∃ x, x < 2 ∧ d = iD x) hd (en_ec (d := iD 2) (fun _ => ec_int) hd rfl) (fun _ _ => en_pick (b := 2) hd (fun _ => ec_int) (by decide)) (fun a b h1 h2 => by
          obtain ⟨c, hc, rfl⟩ := h2
          subst h1
          exact ⟨_, r2_int (g := fun i j => i + j), rfl, 2 + c, by omega, by omega, by show D.int ((2 : Int) + (c : Int)) = D.int ((2 + c : Nat) : Int); congr 1⟩)) (fun _ _ => ena_nil hd rfl) (fun d l h1 h2 => by obtain ⟨k, a, b, rfl⟩ := h1; exact ⟨k, a, b, by rw [h2]⟩)) (fun d l h1 h2 => by obtain ⟨k, a, b, rfl⟩ := h2; exact ⟨k, a, b, by rw [h1]⟩))
        (fun l h => by obtain ⟨k, a, b, rfl⟩ := h; exact ⟨_, ⟨4, k, by decide, by omega, rfl, rfl⟩, imAll_tD _, k, a, b, rfl⟩))
      (fun d d' h1 h2 => ?_)) o (fun d h => h) ns
    obtain ⟨k, a, b, rfl⟩ := h2
    subst h1
    exact ⟨4, _, KM.sized_gf (by omega) (by omega), by decide, rfl⟩
  refine sd_seq (sd_if (et_eqN (k := 6) rfl rfl) (fun _ => ?_) (fun _ => sd_go ?_))
  · refine sd_retDN (S := fun ns => [dr p ns, .val (iD x), .no]) (P := Fam4) hd (en_fam (PA := fun d => d = iD 4) (PB := fun _ d => ∃ ls' : List (List Nat), ls'.Sublist (KM.sized 4 2) ∧ 2 ≤ ls'.length ∧ d = lsD ls') hd (en_ec (d := iD 4) (fun _ => ec_int) hd rfl)
      (fun _ _ => en_draw hd (fun _ => eac_cons (sized 4 2 (by decide) (by decide)) (eac_cons (ec_int (k := ((2 : Nat) : Int))) eac_nil)) ⟨KM.sized 4 2, 2, by rw [KM.sized42]; decide, by rw [KM.sized42]; decide, rfl⟩ (fun d h => h _ _ rfl) (.inr fun _ => rfl))
      (fun d d' h1 h2 => ?_)) o (fun d h => h) ns
    obtain ⟨ls', f1, f2, rfl⟩ := h2
    subst h1
    exact ⟨4, ls', (KM.sized_gf (by decide) (by decide)).sub f1 (fun z => by rw [z] at f2; simp at f2), by decide, rfl⟩
  · refine sd_retDN (S := fun ns => [dr p ns, .val (iD x), .no]) (P := Fam4) hd (en_fam (PA := fun d => ∃ n, 1 ≤ n ∧ n ≤ 2 ∧ d = iD n) (PB := fun _ d => d = lsD [[0]]) hd (en_op (P1 := fun d => d = iD 1) (P2 := fun _ d => ∃ x, x < 2 ∧ d = iD x) hd (en_ec (d := iD 1) (fun _ => ec_int) hd rfl) (fun _ _ => en_pick (b := 2) hd (fun _ => ec_int) (by decide)) (fun a b h1 h2 => by
          obtain ⟨c, hc, rfl⟩ := h2
          subst h1
          exact ⟨_, r2_int (g := fun i j => i + j), rfl, 1 + c, by omega, by omega, by show D.int ((1 : Int) + (c : Int)) = D.int ((1 + c : Nat) : Int); congr 1⟩))
      (fun _ _ => en_ec (d := lsD [[0]]) (fun _ => ec_new (ef_lst (ea_cons (ep_tup (ea_cons ep_int ea_nil) (by simp [zs])) ea_nil)) rfl) hd rfl)
      (fun d d' h1 h2 => ?_)) o (fun d h => h) ns
    obtain ⟨n, a, b, rfl⟩ := h1
    subst h2
    exact ⟨n, _, KM.one1 a, by omega, rfl⟩
theorem ok_law_small4A {f : Addr} {fd : FuncData} (F : Fun K "_law_small" "_law_small" s_law_small f fd) (T : Txt mg) (c_law_pick : Cl P w K mg base 1 "_law_pick" (PickP K)) (c_law_sized : Cl P w K mg base 2 "_law_sized" (Fresh K p_law_sized)) (c_law_mixed_lots : Cl P w K mg base 3 "_law_mixed_lots" (DrawP K ok_mix p_mixed))
    (c_law_fan : Cl P w K mg base 1 "_law_fan" (Fresh K p_law_fan)) (c_law_chosen : Cl P w K mg base 2 "_law_chosen" (DrawP K ok_ch p_chosen)) : FnOk P w K mg base CX0 4 f fd ["_law_draws_here"] (DrawA K p_fam4) := by
  exact FnOk.drawA (ok := ok_0) rfl (ok_law_small4 F T c_law_pick c_law_sized c_law_mixed_lots c_law_fan c_law_chosen)
end
end Y
set_option autoImplicit false
set_option linter.all false
/-! Families side by side, together. -/
namespace KM
abbrev Rw := Nat × List T
def togS (a : Nat × List T × List T) (r : Rw) : Nat × List T × List T := (a.1 + r.1, a.2.1 ++ up a.1 r.2, a.2.2.flatMap fun l => (up a.1 r.2).map fun o => l ++ o)
def tog (rows : List Rw) : Nat × List T × List T := rows.foldl togS (0, [], [[]])
/-- ascending sets between s and e, none within another -/
structure An (s e : Nat) (X : List T) : Prop where
  nd : X.Nodup
  asc : ∀ l ∈ X, Asc l
  ge : ∀ l ∈ X, ∀ x ∈ l, s ≤ x
  lt : ∀ l ∈ X, ∀ x ∈ l, x < e
  an : ∀ l ∈ X, ∀ m ∈ X, (∀ x ∈ l, x ∈ m) → l = m
theorem mem_up {s : Nat} {L : List T} {l : T} : l ∈ up s L ↔ ∃ m ∈ L, l = m.map fun f => f + s := by
  unfold up
  rw [List.mem_map]
  constructor
  · rintro ⟨m, h, rfl⟩; exact ⟨m, h, rfl⟩
  · rintro ⟨m, h, rfl⟩; exact ⟨m, h, rfl⟩
theorem map_add_inj {s : Nat} {a b : T} (h : (a.map fun f => f + s) = b.map fun f => f + s) : a = b := by
  have := congrArg (List.map fun f => f - s) h
  rw [List.map_map, List.map_map] at this
  have e : ∀ l : T, l.map ((fun f => f - s) ∘ fun f => f + s) = l := fun l => by
    conv => rhs; rw [← List.map_id l]
    exact List.map_congr_left fun x _ => by simp
  rw [e, e] at this
  exact this
theorem up_an {n s : Nat} {L : List T} (g : GF n L) : An s (s + n) (up s L) ∧ ∀ l ∈ up s L, l ≠ [] := by
  refine ⟨⟨?_, fun l hl => ?_, fun l hl x hx => ?_, fun l hl x hx => ?_, fun l hl m hm k => ?_⟩, fun l hl => ?_⟩
  · exact List.pairwise_map.mpr ((nodup_of_lt g.g.lt).imp fun h e => h (map_add_inj e))
  · obtain ⟨m, hm, rfl⟩ := mem_up.mp hl
    exact List.pairwise_map.mpr ((g.g.asc m hm).imp fun h => by omega)
  · obtain ⟨m, hm, rfl⟩ := mem_up.mp hl
    obtain ⟨y, _, rfl⟩ := List.mem_map.mp hx
    omega
  · obtain ⟨m, hm, rfl⟩ := mem_up.mp hl
    obtain ⟨y, hy, rfl⟩ := List.mem_map.mp hx
    have := g.lt m hm y hy
    omega
  · obtain ⟨l', hl', rfl⟩ := mem_up.mp hl
    obtain ⟨m', hm', rfl⟩ := mem_up.mp hm
    rw [g.g.anti l' hl' m' hm' fun x hx => ?_]
    obtain ⟨y, hy, e⟩ := List.mem_map.mp (k _ (List.mem_map.mpr ⟨x, hx, rfl⟩))
    have : y = x := by omega
    rw [← this]; exact hy
  · obtain ⟨m, hm, rfl⟩ := mem_up.mp hl
    simpa using g.lne m hm
theorem cat_an {s m e : Nat} {X Y : List T} (a : An s m X) (b : An m e Y) (hX : ∀ l ∈ X, l ≠ []) (hY : ∀ l ∈ Y, l ≠ []) (sm : s ≤ m) (me : m ≤ e) : An s e (X ++ Y) := by
  have apart : ∀ l ∈ X, ∀ k ∈ Y, ∀ x ∈ l, x ∉ k := fun l hl k hk x hx hx' => by
    have := a.lt l hl x hx
    have := b.ge k hk x hx'
    omega
  refine ⟨List.nodup_append.mpr ⟨a.nd, b.nd, fun l hl k hk z => ?_⟩, fun l hl => ?_, fun l hl x hx => ?_, fun l hl x hx => ?_, fun l hl k hk z => ?_⟩
  · subst z
    obtain ⟨x, r, rfl⟩ := List.exists_cons_of_ne_nil (hX l hl)
    exact apart _ hl _ hk x (by simp) (by simp)
  · rcases List.mem_append.mp hl with h | h
    · exact a.asc l h
    · exact b.asc l h
  · rcases List.mem_append.mp hl with h | h
    · exact a.ge l h x hx
    · have := b.ge l h x hx; omega
  · rcases List.mem_append.mp hl with h | h
    · have := a.lt l h x hx; omega
    · exact b.lt l h x hx
  · rcases List.mem_append.mp hl with h | h <;> rcases List.mem_append.mp hk with h' | h'
    · exact a.an l h k h' z
    · obtain ⟨x, r, rfl⟩ := List.exists_cons_of_ne_nil (hX l h)
      exact absurd (z x (by simp)) (apart _ h _ h' x (by simp))
    · obtain ⟨x, r, rfl⟩ := List.exists_cons_of_ne_nil (hY l h)
      exact absurd (by simp) (apart _ h' _ h x (z x (by simp)))
    · exact b.an l h k h' z
theorem prod_an {s m e : Nat} {X Y : List T} (a : An s m X) (b : An m e Y) (sm : s ≤ m) (me : m ≤ e) : An s e (X.flatMap fun l => Y.map fun o => l ++ o) := by
  have mem : ∀ {l : T}, l ∈ (X.flatMap fun l => Y.map fun o => l ++ o) → ∃ p ∈ X, ∃ q ∈ Y, l = p ++ q := fun {l} h => by
    obtain ⟨p, hp, h⟩ := List.mem_flatMap.mp h
    obtain ⟨q, hq, rfl⟩ := List.mem_map.mp h
    exact ⟨p, hp, q, hq, rfl⟩
  have parts : ∀ {p q p' q' : T}, p ∈ X → q ∈ Y → p' ∈ X → q' ∈ Y → (∀ x ∈ p ++ q, x ∈ p' ++ q') → p = p' ∧ q = q' := fun {p q p' q'} hp hq hp' hq' k => by
    constructor
    · refine a.an p hp p' hp' fun x hx => ?_
      rcases List.mem_append.mp (k x (List.mem_append_left _ hx)) with h | h
      · exact h
      · have := a.lt p hp x hx
        have := b.ge q' hq' x h
        omega
    · refine b.an q hq q' hq' fun x hx => ?_
      rcases List.mem_append.mp (k x (List.mem_append_right _ hx)) with h | h
      · have := a.lt p' hp' x h
        have := b.ge q hq x hx
        omega
      · exact h
  refine ⟨?_, fun l hl => ?_, fun l hl x hx => ?_, fun l hl x hx => ?_, fun l hl k hk z => ?_⟩
  · refine List.pairwise_flatMap.mpr ⟨fun p hp => List.pairwise_map.mpr (List.Pairwise.imp_of_mem (fun {q q'} hq hq' h e => h (parts hp hq hp hq' fun x hx => e ▸ hx).2) b.nd), ?_⟩
    refine List.Pairwise.imp_of_mem (fun {p p'} hp hp' h => ?_) a.nd
    intro l hl l' hl' e
    obtain ⟨q, hq, rfl⟩ := List.mem_map.mp hl
    obtain ⟨q', hq', rfl⟩ := List.mem_map.mp hl'
    exact h (parts hp hq hp' hq' fun x hx => e ▸ hx).1
  · obtain ⟨p, hp, q, hq, rfl⟩ := mem hl
    refine List.pairwise_append.mpr ⟨a.asc p hp, b.asc q hq, fun x hx y hy => ?_⟩
    have := a.lt p hp x hx
    have := b.ge q hq y hy
    omega
  · obtain ⟨p, hp, q, hq, rfl⟩ := mem hl
    rcases List.mem_append.mp hx with h | h
    · exact a.ge p hp x h
    · have := b.ge q hq x h; omega
  · obtain ⟨p, hp, q, hq, rfl⟩ := mem hl
    rcases List.mem_append.mp hx with h | h
    · have := a.lt p hp x h; omega
    · exact b.lt q hq x h
  · obtain ⟨p, hp, q, hq, rfl⟩ := mem hl
    obtain ⟨p', hp', q', hq', rfl⟩ := mem hk
    obtain ⟨e1, e2⟩ := parts hp hq hp' hq' z
    rw [e1, e2]
/-- what is known after some rows -/
structure Tg (a : Nat × List T × List T) : Prop where
  one : An 0 a.1 a.2.1
  ne : ∀ l ∈ a.2.1, l ≠ []
  ev : An 0 a.1 a.2.2
  evne : a.2.2 ≠ []
theorem tg_0 : Tg (0, [], [[]]) := ⟨⟨by simp, by simp, by simp, by simp, by simp⟩, by simp, ⟨by simp, by simp [Asc], by simp, by simp, by simp⟩, by simp⟩
theorem tg_step {a : Nat × List T × List T} {r : Rw} (t : Tg a) (g : GF r.1 r.2) : Tg (togS a r) ∧ 1 ≤ (togS a r).1 ∧ (togS a r).2.1 ≠ [] ∧ ∀ l ∈ (togS a r).2.2, l ≠ [] := by
  obtain ⟨u1, u2⟩ := up_an (s := a.1) g
  have une : up a.1 r.2 ≠ [] := by unfold up; simpa using g.ne
  refine ⟨⟨cat_an t.one u1 t.ne u2 (Nat.zero_le _) (Nat.le_add_right _ _), fun l hl => ?_, prod_an t.ev u1 (Nat.zero_le _) (Nat.le_add_right _ _), ?_⟩, ?_, ?_, fun l hl => ?_⟩
  · rcases List.mem_append.mp hl with h | h
    · exact t.ne l h
    · exact u2 l h
  · obtain ⟨p, r1, e1⟩ := List.exists_cons_of_ne_nil t.evne
    obtain ⟨q, r2, e2⟩ := List.exists_cons_of_ne_nil une
    refine List.ne_nil_of_mem (a := p ++ q) (List.mem_flatMap.mpr ⟨p, by rw [e1]; simp, List.mem_map.mpr ⟨q, by rw [e2]; simp, rfl⟩⟩)
  · have := g.n1
    show 1 ≤ a.1 + r.1
    omega
  · show a.2.1 ++ up a.1 r.2 ≠ []
    simp [une]
  · obtain ⟨p, hp, h⟩ := List.mem_flatMap.mp hl
    obtain ⟨q, hq, rfl⟩ := List.mem_map.mp h
    have := u2 q hq
    simp [this]
theorem tg_fold : ∀ (rows : List Rw) (a : Nat × List T × List T), Tg a → (∀ r ∈ rows, GF r.1 r.2) → Tg (rows.foldl togS a) ∧ (rows ≠ [] → 1 ≤ (rows.foldl togS a).1 ∧ (rows.foldl togS a).2.1 ≠ [] ∧ ∀ l ∈ (rows.foldl togS a).2.2, l ≠ [])
  | [], a, t, _ => ⟨t, fun h => absurd rfl h⟩
  | [r], a, t, h => by
    obtain ⟨t', p⟩ := tg_step t (h r (by simp))
    exact ⟨t', fun _ => p⟩
  | r :: r' :: rows, a, t, h => by
    obtain ⟨t', _⟩ := tg_step t (h r (by simp))
    obtain ⟨z, zz⟩ := tg_fold (r' :: rows) (togS a r) t' fun x hx => h x (List.mem_cons_of_mem _ hx)
    exact ⟨z, fun _ => zz (by simp)⟩
theorem tog_ok {rows : List Rw} (hne : rows ≠ []) (h : ∀ r ∈ rows, GF r.1 r.2) : Tg (tog rows) ∧ 1 ≤ (tog rows).1 ∧ (tog rows).2.1 ≠ [] ∧ ∀ l ∈ (tog rows).2.2, l ≠ [] := by
  obtain ⟨a, b⟩ := tg_fold rows _ tg_0 h
  exact ⟨a, b hne⟩
theorem an_gf {n : Nat} {X : List T} (a : An 0 n X) (n1 : 1 ≤ n) (ne : X ≠ []) (hn : ∀ l ∈ X, l ≠ []) : GF n (srt X) := gf_srt n1 ne a.nd a.asc hn a.lt a.an
/-! the program's way of it -/
theorem starts1 (a : Nat) : starts [a] = [0] := rfl
theorem starts2 (a b : Nat) : starts [a, b] = [0, 0 + a] := rfl
theorem starts3 (a b c : Nat) : starts [a, b, c] = [0, 0 + a, 0 + a + b] := rfl
def ones (k : Nat) : List T := (List.range k).map fun e => [e]
theorem put_one1 (r : Rw) : putL (ones 1) (shares [r]) = (tog [r]).2.1 := by
  simp [putL, ones, shares, putR, putS, tog, togS, starts, startsS, List.range_succ]
theorem put_one2 (r q : Rw) : putL (ones 2) (shares [r, q]) = (tog [r, q]).2.1 := by
  simp [putL, ones, shares, putR, putS, tog, togS, starts, startsS, List.range_succ]
theorem put_one3 (r q z : Rw) : putL (ones 3) (shares [r, q, z]) = (tog [r, q, z]).2.1 := by
  simp [putL, ones, shares, putR, putS, tog, togS, starts, startsS, List.range_succ]
theorem put_all1 (r : Rw) : putL [List.range 1] (shares [r]) = (tog [r]).2.2 := by
  simp [putL, shares, putR, putS, tog, togS, starts, startsS, List.range_succ]
theorem put_all2 (r q : Rw) : putL [List.range 2] (shares [r, q]) = (tog [r, q]).2.2 := by
  simp [putL, shares, putR, putS, tog, togS, starts, startsS, List.range_succ]
theorem put_all3 (r q z : Rw) : putL [List.range 3] (shares [r, q, z]) = (tog [r, q, z]).2.2 := by
  simp [putL, shares, putR, putS, tog, togS, starts, startsS, List.range_succ]
end KM
set_option Elab.async false
set_option linter.all false
set_option autoImplicit false
set_option maxRecDepth 100000
set_option maxHeartbeats 4000000
namespace Y
open PySem L2
section
variable {K : PySem.W.Frag} {B : List Addr} {H0 : Hp} {Z Yp : Hp → Prop} {E E' : List Slot} {te : TE} {l : List D} {De : Ends} {tu : TS}
/-- the list at p, as it stands -/
def RL (K : PySem.W.Frag) (p : Addr) (l : List D) : Hp → Prop := fun H => ∃ vs, H p = some (.lst vs) ∧ IsAll K H vs l
/-- a new list that is not changed, known by its place -/
theorem sd_asgP {i : Nat} (h : EF K B H0 Z te E l) (im : imAll l = true) (k : ∀ p, (∀ {H H' : Hp}, Ex H H' → Z H → Z H') → SD K B H0 (fun H => Z H ∧ RL K p l H) tNext De (E.set i (.val (.adr p)))) : SD K B H0 Z (tAsg te (gName i)) De E := fun σ H e =>
  h σ H e _ fun p vs H1 np e1 hp h1 => by
    have e' := e.ext e1
    have no : p ∉ ows E := new_no e np
    have e2 : Env K B H0 (fun H => Z H ∧ RL K p l H) E σ H1 := ⟨e'.ex, e'.inj, e'.fr, e'.len, e'.val, e'.own, ⟨e'.pin, vs, by rw [hid_at no]; exact hp, h1.clean e'.lsts im⟩, fun x q => ⟨e.zm x q.1, let ⟨vs, a, b⟩ := q.2; ⟨vs, x _ _ a, b.mono x⟩⟩⟩
    exact k p e.zm _ H1 (e2.set (.adr p) rfl)
theorem el_adr {i : Nat} {p : Addr} (h : E[i]? = some (.val (.adr p))) (hz : ∀ H, Z H → RL K p l H) : EL K B H0 Z (tVar i) E l := fun σ H e Q q => by
  obtain ⟨v, h1, h2⟩ := e.val i _ h
  cases h2
  obtain ⟨vs, a, b⟩ := hz _ e.pin
  exact ⟨_, h1, q p vs H (Ex.refl H) (hid_some a).2 (b.mono (hid_le _ _))⟩
theorem ec_adr {i : Nat} {p : Addr} (h : E[i]? = some (.val (.adr p))) (hz : ∀ H, Z H → RL K p l H) : EC K B H0 Z (tVar i) E (.lst l) := fun σ H e Q q => by
  obtain ⟨v, h1, h2⟩ := e.val i _ h
  cases h2
  obtain ⟨vs, a, b⟩ := hz _ e.pin
  exact ⟨_, h1, q _ H (Ex.refl H) (.lst (SqL.of a) b)⟩
theorem sd_forLZ {α : Type} {j : Nat} (c : α → D) {ts : List α} (W : Nat → List Slot → Prop) (h : EC K B H0 Z te E (.lst (ts.map c))) (h0 : W 0 E)
    (hs : ∀ (Z' : Hp → Prop), (∀ H, Z' H → Z H) → ∀ i a E, ts[i]? = some a → W i E → SD K B H0 Z' tu (LW K B H0 Z' De (W (i + 1))) (E.set j (.val (c a))))
    (hd : ∀ E, W ts.length E → SD K B H0 Z tNext De E) : SD K B H0 Z (tFor (iList K te) (gName j) tu) De E := fun σ H e =>
  h σ H e _ fun v H1 e1 h1 => by
    have e' := e.ext e1
    cases h1 with
    | lst hq ht =>
      rename_i a xs
      refine ⟨a, rfl, ⟨xs, sqL_ex (hid_le _ _) hq⟩, ?_⟩
      have hl : xs.length = ts.length := by rw [ht.length, List.length_map]
      refine for_list (xs := xs) (fun i σ' H' => ∃ E, W i E ∧ Env K B H0 (fun H => Z H ∧ SqL K H a xs ∧ IsAll K H xs (ts.map c)) E σ' H') ?_ (fun i σ' H' _ ⟨_, _, p⟩ => sqL_ex (hid_le _ _) p.pin.2.1) ?_ ?_
      · exact ⟨E, h0, e'.ex, e'.inj, e'.fr, e'.len, e'.val, e'.own, ⟨e'.pin, hq, ht⟩, fun x q => ⟨e.zm x q.1, sqL_ex x q.2.1, q.2.2.mono x⟩⟩
      · rintro i x σ' H' hx ⟨E1, pi, p⟩
        obtain ⟨d, hd1, hd2⟩ := p.pin.2.2.get hx
        obtain ⟨r, hr, rfl⟩ := map_at hd1
        exact hs _ (fun _ z => z.1) i r E1 hr pi _ _ (p.setC hd2)
      · rintro σ' H' ⟨E1, pi, p⟩
        rw [hl] at pi
        exact hd E1 pi _ _ (p.drop e.zm)
theorem sd_lwD {W : List Slot → Prop} (zm : ∀ {H H' : Hp}, Ex H H' → Z H → Z H') (hw : W E') (h : LeE E E') : SD K B H0 (fun H => Z H ∧ Yp H) tNext (LW K B H0 Z De W) E := fun σ H e => ⟨E', hw, (e.drop zm).le h⟩
end
section
variable {P : Program} {w : World} {K : PySem.W.Frag} {mg : Str → Option Value} {base : Heap}
/-! together -/
abbrev s_law_together : Stmt := topS 74
abbrev N_law_together : List Str := ["_law_rows", "_law_one", "_law_every", "_law_start", "_law_row", "_law_raised_lots", "_law_lot", "_law_thing", "_law_grown", "_law_other"]
theorem sc_law_together : FnScope N_law_together ["_law_rows"] (defScope s_law_together) := ⟨rfl, rfl, rfl, by decide +kernel, rfl, by decide +kernel, by decide +kernel⟩
def famR (r : Nat × List (List Nat)) : D := famL r.1 r.2
structure TogOk (rows : Rws) : Prop where
  len : rows.length < 1000
  r : ∀ r ∈ rows, r.2.length < 1000 ∧ ∀ l ∈ r.2, l.length < 1000
  b : ∀ i, (KM.tog (rows.take i)).2.1.length < 1000 ∧ (KM.tog (rows.take i)).2.2.length < 1000 ∧ ∀ l ∈ (KM.tog (rows.take i)).2.2, l.length < 1000
  o : ∀ l ∈ (KM.tog rows).2.1, l ≠ []
  e : ∀ l ∈ (KM.tog rows).2.2, l ≠ []
def togD (rows : Rws) : D := .lst [iD (KM.tog rows).1, lsD (KM.srt (KM.tog rows).2.1), lsD (KM.srt (KM.tog rows).2.2)]
def p_tog (ds : List D) (d : D) : Prop := ∃ rows : Rws, TogOk rows ∧ ds = [.lst (rows.map famR)] ∧ d = togD rows
theorem ok_law_together {f : Addr} {fd : FuncData} (F : Fun K "_law_together" "_law_together" s_law_together f fd) (T : Txt mg) : FnOk P w K mg base CX0 1 f fd ["_law_rows"] (Pure K p_tog) := by
  refine pure_ok F sc_law_together (fun ds d h => by obtain ⟨_, _, rfl, _⟩ := h; rfl) (by decide) fun cdv A outer s H E hr => ?_
  have hu := hr.units
  refine ⟨_, (pss_cons (ps_set (i := 1) sc_law_together.nd rfl (Or.inl rfl) (pe_lst pa_nil))
    (pss_cons (ps_set (i := 2) sc_law_together.nd rfl (Or.inl rfl) (pe_lst (pa_cons (pe_tup pa_nil) pa_nil)))
    (pss_cons (ps_set (i := 3) sc_law_together.nd rfl (Or.inr rfl) pe_int)
    (pss_cons (ps_for PassesOwn.never rfl (pi_list (pv 0)) (pg_name (i := 4) sc_law_together.nd rfl (Or.inl rfl))
    (pss_cons (ps_setLc (i := 5) (own := [("_law_lot", 6)]) (g := gName 6) rfl sc_law_together.nd rfl rfl (sw_true rfl rfl rfl (by decide +kernel)) (pi_list (pe_ix (r := rIxL K) ix_list (pv 4) pe_int (fun _ _ => rfl))) (blkOk_by (N := N_law_together) (sc := defScope s_law_together) (by decide +kernel)) (fun _ _ _ _ _ => pg_name (i := 6) sc_law_together.nd rfl (Or.inl rfl)) (fun _ _ _ _ _ => pts_nil) (fun _ _ _ _ _ => (pe_callTy (r := rTupOf K) call_tupY (by rfl) T.tuple (by decide +kernel) (pa_cons (pe_lc (own := [("_law_thing", 7)]) (g := gName 7) rfl sc_law_together.nd (pi_tupY (K := K) rfl (pv 6)) (blkOk_by (N := N_law_together) (sc := relS (lcE (stE (at_ 0 (forB (at_ 3 (defBody s_law_together)))))) (defScope s_law_together)) (by decide +kernel)) (fun _ _ _ _ _ => pg_name (i := 7) sc_law_together.nd rfl (Or.inl rfl)) (fun _ _ _ _ _ => pts_nil) (fun _ _ _ _ _ => (pe_op op_add (pv 3) (pv 7)))) pa_nil))))
    (pss_cons (ps_set (i := 1) sc_law_together.nd rfl (Or.inl rfl) (pe_op op_cat (pv 1) (pv 5)))
    (pss_cons (ps_set (i := 8) sc_law_together.nd rfl (Or.inl rfl) (pe_lst pa_nil))
    (pss_cons (ps_for PassesOwn.never rfl (pi_list (pv 2)) (pg_name (i := 6) sc_law_together.nd rfl (Or.inl rfl))
    (pss_one (ps_for PassesOwn.never rfl (pi_list (pv 5)) (pg_name (i := 9) sc_law_together.nd rfl (Or.inl rfl))
    (pss_one (ps_expr (pe_bm PySem.F.plainAttrs_list PySem.F.slot_list_append PySem.F.type_list_append mt_append (pv 8) (pa_cons (pe_op (r := rCatA K) op_catA (pv 6) (pv 9)) pa_nil)))))))
    (pss_cons (ps_set (i := 2) sc_law_together.nd rfl (Or.inl rfl) (pe_callTy (r := rLstOf K) call_lstY (by rfl) T.list (by decide +kernel) (pa_cons (pv 8) pa_nil)))
    (pss_one (ps_set (i := 3) sc_law_together.nd rfl (Or.inr rfl) (pe_op op_add (pv 3) (pe_ix (r := rIxL K) ix_list (pv 4) pe_int (fun _ _ => rfl)))))))))))
    (pss_one (ps_ret (pe_lst (pa_cons (pv 3) (pa_cons (pe_callB (r := rSortY K) (cr_sortY hu) (by rfl) T.sorted (by decide +kernel) (pa_cons (pv 1) pa_nil)) (pa_cons (pe_callB (r := rSortY K) (cr_sortY hu) (by rfl) T.sorted (by decide +kernel) (pa_cons (pv 2) pa_nil)) pa_nil)))))))))), ?_⟩
  rintro ds d ⟨rows, ht, rfl, rfl⟩ De o
  refine sd_seq (sd_asgO (l := []) (ef_lst ea_nil) rfl fun q0 => sd_go ?_)
  refine sd_seq (sd_asgL (l := [tD []]) (ef_lst (ea_cons (ep_tup ea_nil (by show (0 : Nat) ≤ 100000; decide)) ea_nil)) rfl (sd_go ?_))
  refine sd_seq (sd_asg (d := iD 0) ep_int rfl (sd_go ?_))
  let A : Nat → Nat × List (List Nat) × List (List Nat) := fun i => KM.tog (rows.take i)
  refine sd_seq (sd_forLW (c := famR) (ts := rows) (fun i E => ∃ q, E = [.val (.lst (rows.map famR)), .own q ((A i).2.1.map tD), .val (lsD (A i).2.2), .val (iD (A i).1), .no, .no, .no, .no, .no, .no]) (ec_var rfl) ⟨q0, rfl⟩ ?_ ?_)
  · rintro Z' i r E hr' ⟨q, rfl⟩
    have hrm : r ∈ rows := List.mem_of_getElem? hr'
    have hrb := ht.r r hrm
    have hst : A (i + 1) = KM.togS (A i) r := by
      simp only [A]
      rw [take_step hr']
      unfold KM.tog
      rw [List.foldl_append]
      rfl
    have hb0 : (A i).2.1.length < 1000 ∧ (A i).2.2.length < 1000 ∧ ∀ l ∈ (A i).2.2, l.length < 1000 := ht.b i
    have hb1 : (A (i + 1)).2.1.length < 1000 ∧ (A (i + 1)).2.2.length < 1000 ∧ ∀ l ∈ (A (i + 1)).2.2, l.length < 1000 := ht.b (i + 1)
    rw [hst] at hb1
    generalize hA : A i = a at hst hb0 hb1
    obtain ⟨st, one, ev⟩ := a
    have hone : one.length < 1000 := hb0.1
    have hevl : ∀ l ∈ ev, l.length < 1000 := hb0.2.2
    have hup : (KM.up st r.2).length = r.2.length := by unfold KM.up; rw [List.length_map]
    have row : ∀ {Z : Hp → Prop} {E : List Slot} {k : Nat} {d : D}, E[4]? = some (.val (famR r)) → ([iD r.1, lsD r.2])[k]? = some d → EP K [] H Z (tOp (rIxL K) (tVar 4) (tC (.int (k : Int)))) E d := fun {Z E k d} h hk => ep_op (ep_var (i := 4) (d := .lst [iD r.1, lsD r.2]) h) ep_int (r2_ixL (atI_nat hk))
    refine sd_seq (sd_asgP (l := (KM.up st r.2).map tD) (ef_is (ef_lcL1 (j := 6) (c := tD) (ts := r.2) (fun l => tD (l.map fun f => f + st)) (row (k := 1) rfl rfl) (fun _ _ => tD_im _) (by omega) (fun l hl => ?_) (fun _ _ => tD_im _)) (by unfold KM.up; rw [List.map_map]; rfl)) (imAll_tD _) fun p5 zm => sd_go ?_)
    · refine ep_is (ep_cb (ea_cons (EF.p (ef_lcT1 (j := 7) (c := iD) (ts := l) (fun f => iD (f + st)) (ep_is (ep_var (i := 6) (d := tD l) rfl) (tD_eq l)) (fun _ _ => rfl) (by have := hrb.2 l hl; omega) (fun f hf => ep_is (ep_op (ep_var (i := 3) (d := iD st) rfl) (ep_var (i := 7) (d := iD f) rfl) r2_int) (by unfold iD; congr 1; omega)) (fun _ _ => rfl))) ea_nil) rc_tupleL) ?_
      rw [tD_eq, List.map_map]
      rfl
    refine sd_seq (sd_asgO (l := (one ++ KM.up st r.2).map tD) (ef_is (ef_cat (el_own (i := 1) rfl) (el_adr (i := 5) rfl fun _ z => z.2) (by rw [List.length_map, List.length_map, hup]; have := hrb.1; omega)) (by rw [List.map_append])) (imAll_tD _) fun q1 => sd_go ?_)
    refine sd_seq (sd_asgO (l := []) (ef_lst ea_nil) rfl fun q8 => sd_go ?_)
    let G : List Nat → List (List Nat) := fun l => (KM.up st r.2).map fun o => l ++ o
    refine sd_seq (sd_forLZ (c := tD) (ts := ev) (fun j E => E = [.val (.lst (rows.map famR)), .own q1 ((one ++ KM.up st r.2).map tD), .val (lsD ev), .val (iD st), .val (famR r), .val (.adr p5), .no, .no, .own q8 (((ev.take j).flatMap G).map tD), .no]) (ec_var rfl) rfl ?_ ?_)
    · rintro Z2 hz2 j l E hl rfl
      have hlm : l ∈ ev := List.mem_of_getElem? hl
      refine sd_forLZ (c := tD) (ts := KM.up st r.2) (fun m E => E = [.val (.lst (rows.map famR)), .own q1 ((one ++ KM.up st r.2).map tD), .val (lsD ev), .val (iD st), .val (famR r), .val (.adr p5), .val (tD l), .no, .own q8 (((ev.take j).flatMap G ++ ((KM.up st r.2).take m).map fun o => l ++ o).map tD), .no]) (ec_adr (i := 5) rfl fun H h => (hz2 H h).2) (by simp) ?_ ?_
      · rintro Z3 hz3 m oo E ho rfl
        have hom : oo ∈ KM.up st r.2 := List.mem_of_getElem? ho
        have hol : oo.length < 1000 := by
          obtain ⟨z, hz, rfl⟩ := KM.mem_up.mp hom
          rw [List.length_map]
          exact hrb.2 z hz
        have hcnt : ((ev.take j).flatMap G ++ ((KM.up st r.2).take m).map fun o => l ++ o).length < 1000 := by
          have h1 : ((ev.take (j + 1)).flatMap G).length ≤ (ev.flatMap G).length := by
            have := fl_le (l := ev) (i := j + 1) fun l => (G l).map tD
            rw [← fm_tD, ← fm_tD, List.length_map, List.length_map] at this
            exact this
          rw [take_step hl, List.flatMap_append, List.length_append] at h1
          have h2 : (ev.flatMap G).length < 1000 := hb1.2.1
          have h3 : ([l].flatMap G).length = (KM.up st r.2).length := by simp [G]
          rw [List.length_append, List.length_map, List.length_take]
          omega
        refine sd_app (p := q8) (i := 8) (d := tD (l ++ oo)) rfl (ep_is (ep_op (ep_is (ep_var (i := 6) (d := tD l) rfl) (tD_eq l)) (ep_is (ep_var (i := 9) (d := tD oo) rfl) (tD_eq oo)) (r2_catA (by rw [List.length_map, List.length_map]; have := hevl l hlm; omega))) (by rw [tD_eq, List.map_append])) (tD_im _) (by rw [List.length_map]; omega) (sd_lw rfl ?_)
        have e3 : (((ev.take j).flatMap G ++ ((KM.up st r.2).take (m + 1)).map fun o => l ++ o).map tD) = (((ev.take j).flatMap G ++ ((KM.up st r.2).take m).map fun o => l ++ o).map tD) ++ [tD (l ++ oo)] := by
          rw [take_step ho]
          simp [List.map_append]
        rw [e3]
        exact .eq (.eq (.eq (.eq (.eq (.eq (.eq (.eq (.eq (.no .nil)))))))))
      · rintro E rfl
        refine sd_lw rfl ?_
        rw [List.take_length, take_step hl, List.flatMap_append]
        simp only [List.flatMap_cons, List.flatMap_nil, List.append_nil]
        exact .eq (.eq (.eq (.eq (.eq (.eq (.no (.eq (.eq (.eq .nil)))))))))
    · rintro E rfl
      rw [List.take_length]
      refine sd_go (sd_seq (sd_asgL (l := (ev.flatMap G).map tD) (ef_cb (ea_cons (ep_own (i := 8) rfl) ea_nil) (rf_list (.inr rfl))) (imAll_tD _) (sd_go ?_)))
      refine sd_asg (d := iD (st + r.1)) (ep_is (ep_op (ep_var (i := 3) (d := iD st) rfl) (row (k := 0) rfl rfl) r2_int) (by unfold iD; rw [Int.natCast_add])) rfl (sd_lwD zm ⟨q1, rfl⟩ ?_)
      rw [hst]
      exact .eq (.eq (.eq (.eq (.no (.no (.no (.no (.no (.no .nil)))))))))
  · rintro E ⟨q, rfl⟩
    have hA : A rows.length = KM.tog rows := by simp only [A]; rw [List.take_length]
    rw [hA]
    exact sd_go (sd_ret (EF.p (ef_lst (ea_cons (ep_var (i := 3) (d := iD (KM.tog rows).1) rfl) (ea_cons (EF.p (ef_cb (ea_cons (ep_own (i := 1) rfl) ea_nil) (rf_sortY (.inr ht.o)))) (ea_cons (EF.p (ef_cb (ea_cons (ep_var (i := 2) (d := lsD (KM.tog rows).2.2) rfl) ea_nil) (rf_sortY (.inr ht.e)))) ea_nil))))) o.rt)
theorem ok_law_togetherA {f : Addr} {fd : FuncData} (F : Fun K "_law_together" "_law_together" s_law_together f fd) (T : Txt mg) : FnOk P w K mg base CX0 1 f fd ["_law_rows"] (PureA K p_tog) := by
  exact FnOk.apart (ok_law_together F T)
end
end Y
set_option Elab.async false
set_option linter.all false
set_option autoImplicit false
set_option maxRecDepth 100000
set_option maxHeartbeats 4000000
namespace KM
theorem tog1_len (a : Nat × List T × List T) (r : Rw) : (togS a r).2.1.length = a.2.1.length + r.2.length := by simp [togS, up]
theorem tog2_len (a : Nat × List T × List T) (r : Rw) : (togS a r).2.2.length = a.2.2.length * r.2.length := by
  simp only [togS, List.length_flatMap, List.length_map]
  have : ∀ (X : List T) (n : Nat), (X.map fun _ => n).sum = X.length * n := fun X n => by
    induction X with
    | nil => simp
    | cons x X ih => rw [List.map_cons, List.sum_cons, ih, List.length_cons, Nat.add_mul]; omega
  have h := this a.2.2 (up a.1 r.2).length
  rw [h]
  simp [up]
theorem tog0_len (a : Nat × List T × List T) (r : Rw) : (togS a r).1 = a.1 + r.1 := rfl
theorem p1_1 (r : Rw) : putR (shares [r]) [0] = (tog [r]).2.2 := by simp [shares, putR, putS, tog, togS, starts, startsS, List.range_succ]
theorem p2_1 (r q : Rw) : putR (shares [r, q]) [0] = (tog [r]).2.2 := by simp [shares, putR, putS, tog, togS, starts, startsS, List.range_succ]
theorem p2_2 (r q : Rw) : putR (shares [r, q]) [0, 1] = (tog [r, q]).2.2 := by simp [shares, putR, putS, tog, togS, starts, startsS, List.range_succ]
theorem p3_1 (r q z : Rw) : putR (shares [r, q, z]) [0] = (tog [r]).2.2 := by simp [shares, putR, putS, tog, togS, starts, startsS, List.range_succ]
theorem p3_2 (r q z : Rw) : putR (shares [r, q, z]) [0, 1] = (tog [r, q]).2.2 := by simp [shares, putR, putS, tog, togS, starts, startsS, List.range_succ]
theorem p3_3 (r q z : Rw) : putR (shares [r, q, z]) [0, 1, 2] = (tog [r, q, z]).2.2 := by simp [shares, putR, putS, tog, togS, starts, startsS, List.range_succ]
theorem pre_all : ∀ (rows : List Rw), 1 ≤ rows.length → rows.length ≤ 3 → ∀ i, putR (shares rows) ((List.range rows.length).take i) = (tog (rows.take i)).2.2
  | [r], _, _, 0 => rfl
  | [r], _, _, i + 1 => by
    have e : (List.range [r].length).take (i + 1) = [0] := List.take_of_length_le (by simp)
    rw [e, List.take_of_length_le (by simp)]
    exact p1_1 r
  | [r, q], _, _, 0 => rfl
  | [r, q], _, _, 1 => p2_1 r q
  | [r, q], _, _, i + 2 => by
    have e : (List.range [r, q].length).take (i + 2) = [0, 1] := List.take_of_length_le (by simp)
    rw [e, List.take_of_length_le (by simp)]
    exact p2_2 r q
  | [r, q, z], _, _, 0 => rfl
  | [r, q, z], _, _, 1 => p3_1 r q z
  | [r, q, z], _, _, 2 => p3_2 r q z
  | [r, q, z], _, _, i + 3 => by
    have e : (List.range [r, q, z].length).take (i + 3) = [0, 1, 2] := List.take_of_length_le (by simp)
    rw [e, List.take_of_length_le (by simp)]
    exact p3_3 r q z
  | _ :: _ :: _ :: _ :: _, _, h, _ => by simp at h
theorem put_ones : ∀ (rows : List Rw), 1 ≤ rows.length → rows.length ≤ 3 → putL (ones rows.length) (shares rows) = (tog rows).2.1
  | [r], _, _ => put_one1 r
  | [r, q], _, _ => put_one2 r q
  | [r, q, z], _, _ => put_one3 r q z
  | _ :: _ :: _ :: _ :: _, _, h => by simp at h
theorem put_whole (rows : List Rw) (h1 : 1 ≤ rows.length) (h3 : rows.length ≤ 3) : putL [List.range rows.length] (shares rows) = (tog rows).2.2 := by
  have := pre_all rows h1 h3 rows.length
  rw [List.take_of_length_le (by simp), List.take_length] at this
  unfold putL
  simpa using this
end KM
namespace Y
open PySem L2
/-- rows as the law draws them -/
structure Rows (rows : Rws) : Prop where
  l1 : 1 ≤ rows.length
  l3 : rows.length ≤ 3
  gf : ∀ r ∈ rows, KM.GF r.1 r.2
  n4 : ∀ r ∈ rows, r.1 ≤ 4
  few : rows.length = 3 → (rows.map fun r => r.2.length).foldl (· * ·) 1 ≤ 200
theorem gf16 {n : Nat} {L : List (List Nat)} (g : KM.GF n L) (h : n ≤ 4) : L.length ≤ 16 := by
  have h1 := KM.gf_len g
  have h2 : 2 ^ n ≤ 2 ^ 4 := Nat.pow_le_pow_right (by decide) h
  have h3 : (2 : Nat) ^ 4 = 16 := by decide
  omega
theorem tog0 : (KM.tog []).1 ≤ 12 ∧ (KM.tog []).2.1.length < 1000 ∧ (KM.tog []).2.2.length < 1000 := ⟨by decide, by decide, by decide⟩
theorem tog_lens : ∀ {rows : Rws}, Rows rows → ∀ i, (KM.tog (rows.take i)).1 ≤ 12 ∧ (KM.tog (rows.take i)).2.1.length < 1000 ∧ (KM.tog (rows.take i)).2.2.length < 1000 := fun {rows} h i => by
  have len : ∀ r ∈ rows, r.2.length ≤ 16 := fun r hr => gf16 (h.gf r hr) (h.n4 r hr)
  have n4 := h.n4
  have few := h.few
  have l3 := h.l3
  have l1 := h.l1
  clear h
  match rows, len, n4, few, l1, l3 with
  | [r], len, n4, few, _, _ =>
    have a := len r (by simp); have a4 := n4 r (by simp)
    rcases i with _ | i
    · exact tog0
    · rw [List.take_of_length_le (by simp)]
      simp only [KM.tog, List.foldl_cons, List.foldl_nil, KM.tog0_len, KM.tog1_len, KM.tog2_len, List.length_nil, List.length_singleton]
      omega
  | [r, q], len, n4, few, _, _ =>
    have a := len r (by simp); have a4 := n4 r (by simp)
    have b := len q (by simp); have b4 := n4 q (by simp)
    have ab : r.2.length * q.2.length ≤ 16 * 16 := Nat.mul_le_mul a b
    rcases i with _ | _ | i
    · exact tog0
    · show (KM.tog [r]).1 ≤ 12 ∧ (KM.tog [r]).2.1.length < 1000 ∧ (KM.tog [r]).2.2.length < 1000
      simp only [KM.tog, List.foldl_cons, List.foldl_nil, KM.tog0_len, KM.tog1_len, KM.tog2_len, List.length_nil, List.length_singleton]
      omega
    · rw [List.take_of_length_le (by simp)]
      simp only [KM.tog, List.foldl_cons, List.foldl_nil, KM.tog0_len, KM.tog1_len, KM.tog2_len, List.length_nil, List.length_singleton, Nat.one_mul]
      omega
  | [r, q, z], len, n4, few, _, _ =>
    have a := len r (by simp); have a4 := n4 r (by simp)
    have b := len q (by simp); have b4 := n4 q (by simp)
    have c := len z (by simp); have c4 := n4 z (by simp)
    have ab : r.2.length * q.2.length ≤ 16 * 16 := Nat.mul_le_mul a b
    have abc : r.2.length * q.2.length * z.2.length ≤ 200 := by
      have := few rfl
      simpa using this
    rcases i with _ | _ | _ | i
    · exact tog0
    · show (KM.tog [r]).1 ≤ 12 ∧ (KM.tog [r]).2.1.length < 1000 ∧ (KM.tog [r]).2.2.length < 1000
      simp only [KM.tog, List.foldl_cons, List.foldl_nil, KM.tog0_len, KM.tog1_len, KM.tog2_len, List.length_nil, List.length_singleton]
      omega
    · show (KM.tog [r, q]).1 ≤ 12 ∧ (KM.tog [r, q]).2.1.length < 1000 ∧ (KM.tog [r, q]).2.2.length < 1000
      simp only [KM.tog, List.foldl_cons, List.foldl_nil, KM.tog0_len, KM.tog1_len, KM.tog2_len, List.length_nil, List.length_singleton, Nat.one_mul]
      omega
    · rw [List.take_of_length_le (by simp)]
      simp only [KM.tog, List.foldl_cons, List.foldl_nil, KM.tog0_len, KM.tog1_len, KM.tog2_len, List.length_nil, List.length_singleton, Nat.one_mul]
      omega
theorem tog_size (rows : Rws) : (KM.tog rows).1 = sizeR rows := by
  have : ∀ (rows : Rws) (a : Nat × List (List Nat) × List (List Nat)), (rows.foldl KM.togS a).1 = a.1 + sizeR rows := by
    intro rows
    induction rows with
    | nil => intro a; rfl
    | cons r rows ih =>
      intro a
      rw [List.foldl_cons, ih]
      show a.1 + r.1 + sizeR rows = a.1 + sizeR (r :: rows)
      unfold sizeR
      rw [List.map_cons, List.sum_cons]
      omega
  have h := this rows (0, [], [[]])
  simpa [KM.tog] using h
/-- all that the law asks of such rows -/
structure RowsOk (rows : Rws) : Prop where
  ne : rows ≠ []
  tog : TogOk rows
  one : InOk rows.length (ones rows.length)
  all : InOk rows.length (whole rows.length)
  c1 : CallOk rows.length (ones rows.length) rows
  c2 : CallOk rows.length (whole rows.length) rows
  e1 : KM.leastLots (ones rows.length) = ones rows.length
  e2 : KM.leastLots (whole rows.length) = whole rows.length
  d1 : ∀ C, putD C (ones rows.length) rows = famD C (KM.tog rows).1 (KM.srt (KM.tog rows).2.1)
  d2 : ∀ C, putD C (whole rows.length) rows = famD C (KM.tog rows).1 (KM.srt (KM.tog rows).2.2)
  v1 : ChOk 1 rows.length ∧ chAt 1 rows.length 1 = ones rows.length
  v2 : ChOk rows.length rows.length ∧ chAt rows.length rows.length rows.length = whole rows.length
  inn : ∀ r ∈ rows, InOk r.1 r.2 ∧ KM.leastLots r.2 = r.2
theorem ones_ok {k : Nat} (h1 : 1 ≤ k) (h3 : k ≤ 3) : InOk k (ones k) ∧ InOk k (whole k) ∧ KM.leastLots (ones k) = ones k ∧ KM.leastLots (whole k) = whole k := by
  have h : k = 1 ∨ k = 2 ∨ k = 3 := by omega
  rcases h with rfl | rfl | rfl
  all_goals refine ⟨⟨by decide, by decide, by decide, by decide, by decide, by decide, by decide⟩, ⟨by decide, by decide, by decide, by decide, by decide, by decide, by decide⟩, KM.least_good ⟨by decide, by decide, by decide⟩, KM.least_good ⟨by decide, by decide, by decide⟩⟩
theorem ch_ok {k : Nat} (h1 : 1 ≤ k) (h3 : k ≤ 3) : (ChOk 1 k ∧ chAt 1 k 1 = ones k) ∧ ChOk k k ∧ chAt k k k = whole k := by
  have h : k = 1 ∨ k = 2 ∨ k = 3 := by omega
  rcases h with rfl | rfl | rfl
  all_goals refine ⟨⟨⟨by decide, by decide, by decide, by decide⟩, by decide⟩, ⟨by decide, by decide, by decide, by decide⟩, by decide⟩
theorem rows_ok {rows : Rws} (h : Rows rows) : RowsOk rows := by
  have hne : rows ≠ [] := fun z => by have := h.l1; rw [z] at this; simp at this
  obtain ⟨o1, o2, o3, o4⟩ := ones_ok h.l1 h.l3
  obtain ⟨v1, v2⟩ := ch_ok h.l1 h.l3
  obtain ⟨tg, t1, t2, t3⟩ := KM.tog_ok hne h.gf
  have lens := tog_lens h
  have tk : rows.take rows.length = rows := List.take_length
  have lensA := lens rows.length
  rw [tk] at lensA
  have hsz := tog_size rows
  have bl : ∀ i, ∀ l ∈ (KM.tog (rows.take i)).2.2, l.length < 1000 := fun i l hl => by
    obtain ⟨tgi, _⟩ := KM.tg_fold (rows.take i) _ KM.tg_0 fun r hr => h.gf r (List.mem_of_mem_take hr)
    have := nodup_le ((tgi.ev.asc l hl).imp fun h => Nat.ne_of_lt h) (tgi.ev.lt l hl)
    have := (lens i).1
    unfold KM.tog at this
    omega
  have bl1 : ∀ l ∈ (KM.tog rows).2.1, l.length < 1000 := fun l hl => by
    have := nodup_le ((tg.one.asc l hl).imp fun h => Nat.ne_of_lt h) (tg.one.lt l hl)
    omega
  have hr16 : ∀ r ∈ rows, r.2.length < 1000 ∧ ∀ l ∈ r.2, l.length < 1000 := fun r hr => by
    have g := h.gf r hr
    have := gf16 g (h.n4 r hr)
    refine ⟨by omega, fun l hl => ?_⟩
    have := asc_len (g.g.asc l hl) (g.lt l hl)
    have := h.n4 r hr
    omega
  have ml : ∀ s ∈ KM.shares rows, ∀ m ∈ s, m.length < 1000 := fun s hs m hm => by
    unfold KM.shares at hs
    obtain ⟨e, he, rfl⟩ := List.mem_map.mp hs
    obtain ⟨m', hm', rfl⟩ := KM.mem_up.mp hm
    rw [List.length_map]
    have hel : e < rows.length := List.mem_range.mp he
    have hg : rows.getD e (0, []) = rows[e] := by simp [List.getD, List.getElem?_eq_getElem hel]
    rw [hg] at hm'
    exact (hr16 _ (List.getElem_mem hel)).2 m' hm'
  have sl : (KM.shares rows).length = rows.length := by unfold KM.shares; simp
  have shl : ∀ e, e < rows.length → ((KM.shares rows).getD e []).length < 1000 := fun e he => by
    have : (KM.shares rows).getD e [] = (KM.shares rows)[e]'(by omega) := by simp [List.getD, List.getElem?_eq_getElem (show e < (KM.shares rows).length by omega)]
    rw [this]
    unfold KM.shares
    simp only [List.getElem_map, List.getElem_range]
    have hg : rows.getD e (0, []) = rows[e] := by simp [List.getD, List.getElem?_eq_getElem he]
    rw [hg]
    unfold KM.up
    rw [List.length_map]
    exact (hr16 _ (List.getElem_mem he)).1
  have g1 : KM.GF (KM.tog rows).1 (KM.srt (KM.tog rows).2.1) := KM.an_gf tg.one t1 t2 tg.ne
  have g2 : KM.GF (KM.tog rows).1 (KM.srt (KM.tog rows).2.2) := KM.an_gf tg.ev t1 tg.evne t3
  have inS : ∀ {X : List (List Nat)}, KM.GF (KM.tog rows).1 (KM.srt X) → X.length < 1000 → InOk (sizeR rows) (KM.srt X) := fun {X} g hz => ⟨hsz ▸ g.n1, by omega, g.ne, by rw [KM.srt_len]; exact hz, g.lne, g.g.asc, hsz ▸ g.lt⟩
  have p1 : KM.putL (ones rows.length) (KM.shares rows) = (KM.tog rows).2.1 := KM.put_ones rows h.l1 h.l3
  have p2 : KM.putL (whole rows.length) (KM.shares rows) = (KM.tog rows).2.2 := KM.put_whole rows h.l1 h.l3
  have in_h := h.l3
  refine ⟨hne, ⟨by omega, hr16, fun i => ⟨(lens i).2.1, (lens i).2.2, bl i⟩, tg.ne, t3⟩, o1, o2, ⟨rfl, by omega, hsz ▸ t1, by omega, hr16, ⟨fun l hl e he => ?_, fun l hl i => ?_, ml, ?_, ?_⟩, ?_⟩, ⟨rfl, by omega, hsz ▸ t1, by omega, hr16, ⟨fun l hl e he => ?_, fun l hl i => ?_, ml, ?_, ?_⟩, ?_⟩, o3, o4, fun C => ?_, fun C => ?_, v1, v2, fun r hr => ⟨?_, KM.least_good (h.gf r hr).g⟩⟩
  · obtain ⟨x, hx, rfl⟩ := List.mem_map.mp hl
    have := List.mem_range.mp hx
    simp at he
    omega
  · obtain ⟨x, hx, rfl⟩ := List.mem_map.mp hl
    have hxl := List.mem_range.mp hx
    rcases i with _ | i
    · simp [KM.putR]
    · rw [List.take_of_length_le (by simp)]
      have e : KM.putR (KM.shares rows) [x] = (KM.shares rows).getD x [] := by simp [KM.putR, KM.putS]
      rw [e]
      refine ⟨shl x hxl, fun r hr => ?_⟩
      have hm : (KM.shares rows).getD x [] ∈ KM.shares rows := by
        have : (KM.shares rows).getD x [] = (KM.shares rows)[x]'(by omega) := by simp [List.getD, List.getElem?_eq_getElem (show x < (KM.shares rows).length by omega)]
        rw [this]
        exact List.getElem_mem _
      exact ml _ hm r hr
  · rw [p1]; exact lensA.2.1
  · rw [p1]; exact .inr tg.ne
  · rw [p1]; exact inS g1 lensA.2.1
  · have : l = List.range rows.length := by simpa [whole] using hl
    subst this
    rw [sl]
    exact List.mem_range.mp he
  · have : l = List.range rows.length := by simpa [whole] using hl
    subst this
    rw [KM.pre_all rows h.l1 h.l3 i]
    exact ⟨(lens i).2.2, bl i⟩
  · rw [p2]; exact lensA.2.2
  · rw [p2]; exact .inr t3
  · rw [p2]; exact inS g2 lensA.2.2
  · unfold putD
    rw [p1, gf_least g1, hsz]
  · unfold putD
    rw [p2, gf_least g2, hsz]
  · exact gf_in (h.gf r hr) (by have := h.n4 r hr; omega)
end Y
set_option Elab.async false
set_option linter.all false
set_option autoImplicit false
set_option maxRecDepth 100000
set_option maxHeartbeats 4000000
namespace Y
open PySem L2
section
variable {P : Program} {w : World} {K : PySem.W.Frag} {mg : Str → Option Value} {base : Heap}
/-! together_word -/
abbrev s_law_together_word : Stmt := topS 76
abbrev N_law_together_word : List Str := ["_law_fam", "_law_bad", "_law_way", "_law_word", "why"]
theorem sc_law_together_word : FnScope N_law_together_word ["_law_fam", "_law_bad", "_law_way"] (defScope s_law_together_word) := ⟨rfl, rfl, rfl, by decide +kernel, rfl, by decide +kernel, by decide +kernel⟩
def twD (way : Nat) : D := match way with
  | 0 => wI "family" 1
  | 1 => wI "family" 0
  | 2 => wS "number" "families"
  | 3 => wS "number" "families"
  | _ => wS "number" "things"
def p_tword (C : Addr) (ds : List D) (d : D) : Prop := ∃ (n : Nat) (L : List (List Nat)) (bad : D) (ty : String) (way : Nat), InOk n L ∧ bad.tyN = some ty ∧ way < 6 ∧ ds = [famD C n L, bad, iD way] ∧ d = twD way
theorem least1 {n : Nat} (h : 1 ≤ n) : KM.leastLots [[0]] = [[0]] := KM.least_good (KM.one1 h).g
theorem one60 : InOk 60 [[0]] := ⟨by decide, by decide, by decide, by decide, by decide, by decide, by decide⟩
theorem ok_law_together_word {f C CN fN CF fF CT : Addr} {fd : FuncData} (F : Fun K "_law_together_word" "_law_together_word" s_law_together_word f fd) (T : Txt mg) (xF : XcK P K mg "BadFamily" "bad family: place " CF fF) (xN : XcS P K mg "BadNumber" "bad number: " CN fN) (hT : mg "Trouble" = some (.ref CT)) (xfF : XfC K CF) (npF : PySem.W.findIn K (.ref CF) "place" = some none)
    (xfN : XfC K CN) (npN : PySem.W.findIn K (.ref CN) "word" = some none) (nNF : PySem.W.mroIn K CN (.ref CF) = some false) (c_Family : ClI P w K mg base 5 C "Family" (InitP K C p_init))
    (c_beside : ClR P w K mg base 8 "beside" (PureE K (fun ds d => p_star C ones [.tup ds] d) (fun ds C' x => q_star C CN CF ones [.tup ds] C' x))) (c_both : ClR P w K mg base 8 "both" (PureE K (fun ds d => p_star C whole [.tup ds] d) (fun ds C' x => q_star C CN CF whole [.tup ds] C' x))) :
    FnOk P w K mg base CX0 9 f fd ["_law_fam", "_law_bad", "_law_way"] (Pure K (p_tword C)) := by
  refine pure_ok F sc_law_together_word (fun ds d h => by obtain ⟨_, _, _, _, _, _, _, _, rfl, _⟩ := h; rfl) (by decide) fun cdv A outer s H E hr => ?_
  refine ⟨_, (pss_cons (ps_set (i := 3) sc_law_together_word.nd rfl (Or.inl rfl) (pe_tup (pa_cons pe_str (pa_cons pe_int pa_nil))))
    (pss_cons (ps_try_manyA rfl rfl sc_law_together_word.nd takes0
      (fun W pn xe tk _ => (pss_one (ps_if (pt_cmpR op_eq (pv 2) pe_int (nomark _)) (pss_one (ps_expr (pe_clR c_beside hr (by decide) (by rfl) tk (pa_cons (pv 0) (pa_cons (pv 1) pa_nil)))))
        (pss_one (ps_if (pt_cmpR op_eq (pv 2) pe_int (nomark _)) (pss_one (ps_expr (pe_clR c_both hr (by decide) (by rfl) tk (pa_cons (pv 1) (pa_cons (pv 0) pa_nil)))))
        (pss_one (ps_if (pt_cmpR op_eq (pv 2) pe_int (nomark _)) (pss_one (ps_expr (pe_clR0 c_beside hr (by decide) (by rfl) tk)))
        (pss_one (ps_if (pt_cmpR op_eq (pv 2) pe_int (nomark _)) (pss_one (ps_expr (pe_clR0 c_both hr (by decide) (by rfl) tk)))
        (pss_one (ps_if (pt_cmpR op_eq (pv 2) pe_int (nomark _)) (pss_one (ps_expr (pe_clR c_beside hr (by decide) (by rfl) tk (pa_cons (pe_clI c_Family hr (by decide) (by rfl) (pa_cons pe_int (pa_cons (pe_lst (pa_cons (pe_tup (pa_cons pe_int pa_nil)) pa_nil)) pa_nil))) (pa_cons (pv 0) pa_nil)))))
        (pss_one (ps_expr (pe_clR c_both hr (by decide) (by rfl) tk (pa_cons (pv 0) (pa_cons (pe_clI c_Family hr (by decide) (by rfl) (pa_cons pe_int (pa_cons (pe_lst (pa_cons (pe_tup (pa_cons pe_int pa_nil)) pa_nil)) pa_nil))) pa_nil))))))))))))))))
      (.nam (i := 4) (c := .ref CF) rfl rfl ⟨by rfl, by decide, .inl xF.m⟩ (fun a oe cls d pn hz hf => pss_one (ps_set (i := 3) sc_law_together_word.nd rfl (Or.inl rfl) (pe_tup (pa_cons pe_str (pa_cons (pe_xf xfF npF hz hf (pv 4)) pa_nil)))))
      (.nam (i := 4) (c := .ref CN) rfl rfl ⟨by rfl, by decide, .inl xN.m⟩ (fun a oe cls d pn hz hf => pss_one (ps_set (i := 3) sc_law_together_word.nd rfl (Or.inl rfl) (pe_tup (pa_cons pe_str (pa_cons (pe_xf xfN npN hz hf (pv 4)) pa_nil)))))
      (.one (c := .ref CT) ⟨by rfl, by decide, .inl hT⟩ (fun a oe cls d pn hz hf => pss_one (ps_set (i := 3) sc_law_together_word.nd rfl (Or.inl rfl) (pe_tup (pa_cons pe_str (pa_cons pe_int pa_nil))))) .nil))))
    (pss_one (ps_ret (pv 3))))), ?_⟩
  rintro ds d ⟨n, L, bad, ty, way, hi, hb, hw, rfl, rfl⟩ De o
  refine sd_seq (sd_asg (d := wI "good" 0) (ep_tup (ea_cons ep_str (ea_cons ep_int ea_nil))) rfl (sd_go ?_))
  refine sd_seq ?_
  have fin : ∀ {Z : Hp → Prop} {w' : D}, w' = twD way → SD K [] H Z (tRet (tVar 3)) De [.val (famD C n L), .val bad, .val (iD way), .val w', .no] := fun {Z w'} e => sd_ret (ep_is (ep_var (i := 3) (d := w') rfl) e) o.rt
  -- the two ways out
  have xNum : ∀ {t : Str}, wS "number" t = twD way → ∀ σ H', Env K [] H (fun _ => True) [.val (famD C n L), .val bad, .val (iD way), .val (wI "good" 0), .no] σ H' → ∀ d, H' d = some (.xd [xW t]) → wManyA K (fun _ _ _ _ => False) { De with nx := fun σ' H' => (tRet (tVar 3)) De σ' H' }
      [(.ref CF, some 4, fun a cls d => tAsg (tTup (tCons (tC (.str "family")) (tCons (tXf a cls d CF "place" (tVar 4)) tNil))) (gName 3)), (.ref CN, some 4, fun a cls d => tAsg (tTup (tCons (tC (.str "number")) (tCons (tXf a cls d CN "word" (tVar 4)) tNil))) (gName 3)), (.ref CT, none, fun _ _ _ => tAsg (tTup (tCons (tC (.str "other")) (tCons (tC (.int 0)) tNil))) (gName 3))] (.ref CN) (some d) σ H' := by
    intro t e σ H' env d hd
    refine ⟨false, exmN xF.c xN.c nNF, ?_, ?_⟩
    · intro z
      cases z
    intro _
    refine ⟨true, exmS xN.c, ?_, ?_⟩
    rotate_left
    · intro z
      cases z
    intro _ a na
    exact wx_word (v := .str t) (dv := .str t) (fun _ => .str t) rfl (by decide) (by show 4 < 5; decide) (sd_go (fin e)) σ H' env d hd a na
  have xFam : ∀ {k : Int}, wI "family" k = twD way → ∀ σ H', Env K [] H (fun _ => True) [.val (famD C n L), .val bad, .val (iD way), .val (wI "good" 0), .no] σ H' → ∀ d, H' d = some (.xd [xP k]) → wManyA K (fun _ _ _ _ => False) { De with nx := fun σ' H' => (tRet (tVar 3)) De σ' H' }
      [(.ref CF, some 4, fun a cls d => tAsg (tTup (tCons (tC (.str "family")) (tCons (tXf a cls d CF "place" (tVar 4)) tNil))) (gName 3)), (.ref CN, some 4, fun a cls d => tAsg (tTup (tCons (tC (.str "number")) (tCons (tXf a cls d CN "word" (tVar 4)) tNil))) (gName 3)), (.ref CT, none, fun _ _ _ => tAsg (tTup (tCons (tC (.str "other")) (tCons (tC (.int 0)) tNil))) (gName 3))] (.ref CF) (some d) σ H' := by
    intro k e σ H' env d hd
    refine ⟨true, exmK xF.c, ?_, ?_⟩
    rotate_left
    · intro z
      cases z
    intro _ a na
    exact wx_word (v := .int k) (dv := .int k) (fun _ => .int k) rfl (by decide) (by show 4 < 5; decide) (sd_go (fin e)) σ H' env d hd a na
  have eF : EP K [] H (fun _ => True) (tVar 0) [.val (famD C n L), .val bad, .val (iD way), .val (wI "good" 0), .no] (famD C n L) := ep_var rfl
  have eB : EP K [] H (fun _ => True) (tVar 1) [.val (famD C n L), .val bad, .val (iD way), .val (wI "good" 0), .no] bad := ep_var rfl
  have e60 : ∀ {E : List Slot}, EP K [] H (fun _ => True) (tMake C (InitP K C p_init) [] E0 (tCons (tC (.int 60)) (tCons (tLst (tCons (tTup (tCons (tC (.int 0)) tNil)) tNil)) tNil))) E (famD C 60 [[0]]) := fun {E} =>
    ep_is (ep_make (ns := ["things", "lots"]) (m := [iD 60, tsD (KM.leastLots [[0]])]) (ea_cons (ep_nat (n := 60)) (ea_cons (EF.p (ef_lst (ea_cons (ep_tup (ea_cons ep_n0 ea_nil) (by show (1 : Nat) ≤ 100000; decide)) ea_nil))) ea_nil)) ⟨60, [[0]], _, one60, .inr rfl, rfl, rfl, rfl⟩) (by rw [least1 (n := 60) (by decide)]; rfl)
  have hn1 := hi.n1
  have t2 : (["x"] : List String).length = 1 := rfl
  have tst : ∀ {Z : Hp → Prop} {E : List Slot} (k : Nat), E[2]? = some (.val (iD way)) → ET K [] H Z (tTest (tOp rEq (tVar 2) (tC (.int (k : Int))))) E (way == k) := fun {Z E} k h => et_test (ep_op (ep_var h) (ep_nat (n := k)) r2_eqN)
  refine sd_if (tst 0 rfl) (fun h => ?_) (fun h0 => ?_)
  · have : way = 0 := by simpa using h
    subst this
    exact sd_dropR (er_callE (ea_cons eF (ea_cons eB ea_nil)) (.inl (.inr ⟨rfl, [(n, L)], bad, ty, [], by simp, by simp, hb, rfl, rfl⟩)) (xFam rfl))
  refine sd_if (tst 1 rfl) (fun h => ?_) (fun h1 => ?_)
  · have : way = 1 := by simpa using h
    subst this
    exact sd_dropR (er_callE (ea_cons eB (ea_cons eF ea_nil)) (.inl (.inr ⟨rfl, [], bad, ty, [famD C n L], by simp, by simp, hb, rfl, rfl⟩)) (xFam rfl))
  refine sd_if (tst 2 rfl) (fun h => ?_) (fun h2 => ?_)
  · have : way = 2 := by simpa using h
    subst this
    exact sd_dropR (er_callE ea_nil (.inl (.inl ⟨rfl, rfl, rfl⟩)) (xNum rfl))
  refine sd_if (tst 3 rfl) (fun h => ?_) (fun h3 => ?_)
  · have : way = 3 := by simpa using h
    subst this
    exact sd_dropR (er_callE ea_nil (.inl (.inl ⟨rfl, rfl, rfl⟩)) (xNum rfl))
  refine sd_if (tst 4 rfl) (fun h => ?_) (fun h4 => ?_)
  · have : way = 4 := by simpa using h
    subst this
    exact sd_dropR (er_callE (ea_cons e60 (ea_cons eF ea_nil)) (.inr ⟨rfl, [(60, [[0]]), (n, L)], by simp, by simp, (ones_ok (k := 2) (by decide) (by decide)).1, by show 60 < 60 + (n + 0); omega, rfl, rfl⟩) (xNum rfl))
  · have : way = 5 := by
      simp at h0 h1 h2 h3 h4
      omega
    subst this
    exact sd_dropR (er_callE (ea_cons eF (ea_cons e60 ea_nil)) (.inr ⟨rfl, [(n, L), (60, [[0]])], by simp, by simp, (ones_ok (k := 2) (by decide) (by decide)).2.1, by show 60 < n + (60 + 0); omega, rfl, rfl⟩) (xNum rfl))
end
end Y
set_option Elab.async false
set_option linter.all false
set_option autoImplicit false
set_option maxRecDepth 100000
set_option maxHeartbeats 4000000
namespace Y
open PySem L2
section
variable {K : PySem.W.Frag} {B : List Addr} {H0 : Hp} {Z : Hp → Prop} {E : List Slot} {S : List Int → List Slot} {i : Nat} {p : Addr} {ta tb te : TE} {l : List D} {De : Ends}
/-- [small(draws) for _ in range(drawn)] -/
theorem en_lcF {j : Nat} {ex : XK} (hd : DS S i p) (hij : i ≠ j) (ho : ∀ ns, ows (S ns) = [p]) (h : EN K B H0 Z te S p (fun d => ∃ n : Nat, d = iD n ∧ 1 ≤ n ∧ n ≤ 3)) :
    EN K B H0 Z (tLc (iRng1 (tCons te tNil)) (gName j) tYes (tCall (DrawA K p_fam4) [] ex (tCons (tVar i) tNil)) [j]) S p (fun d => ∃ rows : Rws, 1 ≤ rows.length ∧ rows.length ≤ 3 ∧ (∀ r ∈ rows, KM.GF r.1 r.2 ∧ r.1 ≤ 4) ∧ d = .lst (rows.map famR)) := fun ns σ H e Q q =>
  h ns σ H e _ fun v d ns1 H1 p1 e1 w1 h1 => by
    obtain ⟨n, rfl, n1, n3⟩ := p1
    cases h1
    obtain ⟨sp, hp⟩ := e1.dat hd
    refine ⟨(n : Int), rfl, by omega, by omega, fun a na => ?_⟩
    have ap : a ≠ p := fun z => by rw [z, hp] at na; cases na
    have n0 : ((n : Int)).toNat = n := by omega
    rw [n0]
    refine lc_range (lo := 0) (n := n) (fun k H' => ∃ (ns' : List Int) (rows : Rws) (acc : List V), H' a = some (.lst acc) ∧ IsAll K (hid [a, p] H') acc (rows.map famR) ∧ (∀ r ∈ rows, KM.GF r.1 r.2 ∧ r.1 ≤ 4) ∧ rows.length = k ∧ H' p = some (iv ns') ∧ ∀ b o, b ≠ p → b ≠ a → H1 b = some o → H' b = some o) ?_ ?_ ?_
    · exact ⟨ns1, [], [], upd_same, .nil, by simp, rfl, by rw [upd_ne (Ne.symm ap)]; exact hp, fun b o _ hb z => by rw [upd_ne hb]; exact z⟩
    · rintro k H2 hk ⟨ns', rows, acc, c1, c2, c3, c4, c5, c6⟩
      refine ⟨wipe1 σ j _, ?_⟩
      have sp2 : ((wipe σ [j]).set j (some (.int ((0 : Int) + (k : Int)))))[i]? = some (some (.ref p)) := by
        show ((σ.set j none).set j _)[i]? = _
        rw [List.getElem?_set_ne (Ne.symm hij), List.getElem?_set_ne (Ne.symm hij)]
        exact sp
      show (tCall (DrawA K p_fam4) [] ex (tCons (tVar i) tNil)) _ H2 _
      refine ⟨.ref p, sp2, p, [a], ns', rfl, c5, by simpa using Ne.symm ap, fun b hb => ⟨acc, by simp at hb; rw [hb]; exact c1⟩, fun v H3 d ns3 dw hp3 hi hpre => ?_⟩
      obtain ⟨m, L, g, m4, rfl⟩ := hpre
      have c1' := dw a _ ap c1
      refine ⟨acc, c1', by rw [c2.length, List.length_map, sizeLine_eq]; omega, ns3, rows ++ [(m, L)], acc ++ [v], upd_same, ?_, ?_, by simp [c4], by rw [upd_ne (Ne.symm ap)]; exact hp3, fun b o hb ha z => by rw [upd_ne ha]; exact dw _ _ hb (c6 b o hb ha z)⟩
      · have x1 : Ex (hid [a, p] H2) (hid [a, p] (upd H3 a (.lst (acc ++ [v])))) := fun b o z => by
          obtain ⟨z1, z2⟩ := hid_some z
          have zb : b ≠ a ∧ b ≠ p := by simpa using z1
          rw [hid_at z1, upd_ne zb.1]
          exact dw b o zb.2 z2
        have x2 : Ex (hid [p, a] H3) (hid [a, p] (upd H3 a (.lst (acc ++ [v])))) := fun b o z => by
          obtain ⟨z1, z2⟩ := hid_some z
          have zb : b ≠ p ∧ b ≠ a := by simpa using z1
          rw [hid_at (by simp [zb.1, zb.2]), upd_ne zb.2]
          exact z2
        rw [List.map_append]
        exact (c2.mono x1).append (.one (hi.mono x2))
      · intro r hr
        rcases List.mem_append.mp hr with hr | hr
        · exact c3 r hr
        · simp at hr
          rw [hr]
          exact ⟨g, m4⟩
    · rintro H2 ⟨ns', rows, acc, c1, c2, c3, c4, c5, c6⟩
      have dw : Drw H1 H2 p := fun b o hb z => c6 b o hb (fun w => by rw [w, na] at z; cases z) z
      refine q _ _ ns' H2 ⟨rows, by omega, by omega, c3, rfl⟩ (e1.drawn hd dw c5) (w1.trans dw) ?_
      rw [ho]
      refine .lst (SqL.of (by rw [hid_at (by simpa using ap)]; exact c1)) (c2.mono (hid_sub fun b hb => by simp at hb; simp [hb]))
theorem cut_02 {xs : List V} (h : 2 ≤ xs.length) : cutV xs (some ((0 : Nat) : Int)) (some ((2 : Nat) : Int)) = xs.take 2 := by
  unfold cutV
  rw [HT.sIx_nat, HT.sIx_nat, Nat.min_eq_left (by omega), Nat.min_eq_left (by omega)]
  simp
theorem ec_sl2 (h : EC K B H0 Z te E (.lst l)) (hl : 2 ≤ l.length) : EC K B H0 Z (tSl (rSlL K) te (tPart (tC (.int 0))) (tPart (tC (.int 2)))) E (.lst (l.take 2)) := fun σ H e Q q =>
  h σ H e _ fun v H1 e1 h1 => by
    cases h1 with
    | lst hq ht =>
      rename_i a xs
      have hx := ht.length
      refine ⟨0, rfl, 2, rfl, a, xs, rfl, sqL_ex (hid_le _ _) hq, fun y ny => ?_⟩
      have hc : cutV xs (some 0) (some 2) = xs.take 2 := cut_02 (xs := xs) (by omega)
      rw [hc]
      have ex3 : Ex H1 (upd H1 y (.lst (xs.take 2))) := Ex.new ny
      exact q _ _ (e1.trans ex3) (.lst (SqL.of (by rw [hid_at (new_no (e.ext e1) ny)]; exact upd_same)) ((ht.take 2).mono (hid_ex ex3)))
end
theorem fms1 {C : Addr} {rows : Rws} (h : rows.length = 1) : ∃ d0, fms C rows = [d0] := by
  match rows, h with
  | [r], _ => exact ⟨_, rfl⟩
theorem fms2 {C : Addr} {rows : Rws} (h : rows.length = 2) : ∃ d0 d1, fms C rows = [d0, d1] := by
  match rows, h with
  | [r, q], _ => exact ⟨_, _, rfl⟩
theorem fms3 {C : Addr} {rows : Rws} (h : rows.length = 3) : ∃ d0 d1 d2, fms C rows = [d0, d1, d2] := by
  match rows, h with
  | [r, q, z], _ => exact ⟨_, _, _, rfl⟩
end Y
set_option Elab.async false
set_option linter.all false
set_option autoImplicit false
set_option maxRecDepth 100000
set_option maxHeartbeats 4000000
namespace Y
open PySem L2
section
variable {P : Program} {w : World} {K : PySem.W.Frag} {mg : Str → Option Value} {base : Heap}
theorem sd_ifJ {K : PySem.W.Frag} {B : List Addr} {H0 : Hp} {Z : Hp → Prop} {E : List Slot} {t : TT} {tx ty : TS} {De : Ends} {b : Bool} {α : Type} {G : α → Prop} {F : α → List Slot} (h : ET K B H0 Z t E b) (h1 : b = true → (∀ a, G a → SD K B H0 Z tNext De (F a)) → SD K B H0 Z tx De E)
    (h2 : b = false → (∀ a, G a → SD K B H0 Z tNext De (F a)) → SD K B H0 Z ty De E) (k : ∀ a, G a → SD K B H0 Z tNext De (F a)) : SD K B H0 Z (tIfS t tx ty) De E := sd_if h (fun e => h1 e k) (fun e => h2 e k)
theorem ef_ea {K : PySem.W.Frag} {B : List Addr} {H0 : Hp} {Z : Hp → Prop} {E : List Slot} {a : TA} {l m : List D} (e : m = l) (h : EA K B H0 Z a E l) : EA K B H0 Z a E m := e ▸ h
/-! right_together -/
abbrev s_law_right_together : Stmt := topS 75
abbrev N_law_right_together : List Str := ["_law_draws_here", "_law_rows", "_law_turn", "_law_many", "_law_due", "_law_fams", "_law_row", "_law_told", "_law_at"]
theorem sc_law_right_together : FnScope N_law_right_together ["_law_draws_here"] (defScope s_law_right_together) := ⟨rfl, rfl, rfl, by decide +kernel, rfl, by decide +kernel, by decide +kernel⟩
def p_true (_ : List D) (d : D) : Prop := d = .bl true
theorem ok_law_right_together {f C CN CF : Addr} {fd : FuncData} (F : Fun K "_law_right_together" "_law_right_together" s_law_right_together f fd) (T : Txt mg) (fc : FamC K mg C) (c_law_pick : Cl P w K mg base 1 "_law_pick" (PickP K)) (c_law_small : Cl P w K mg base 4 "_law_small" (DrawA K p_fam4)) (c_law_together : Cl P w K mg base 1 "_law_together" (PureA K p_tog))
    (c_Family : ClI P w K mg base 5 C "Family" (InitP K C p_init)) (c_beside : ClR P w K mg base 8 "beside" (PureE K (fun ds d => p_star C ones [.tup ds] d) (fun ds C' x => q_star C CN CF ones [.tup ds] C' x))) (c_both : ClR P w K mg base 8 "both" (PureE K (fun ds d => p_star C whole [.tup ds] d) (fun ds C' x => q_star C CN CF whole [.tup ds] C' x)))
    (c_eq : ClO P w K mg base 1 C "__eq__" (Pure K (p_eq C))) (hnf : PySem.W.notFirst K C (.ref C) = true) (c_call : ClC P w K mg base 7 C (PureE K (p_fcall C) (q_fcall C CN))) (c_votes : Cl P w K mg base 7 "votes" (Pure K (p_votes C))) :
    FnOk P w K mg base CX0 9 f fd ["_law_draws_here"] (DrawP K ok_0 p_true) := by
  refine draw_ok F sc_law_right_together (fun ds h => by cases h; rfl) (by decide) fun cdv A outer s H E hr => ?_
  have hu := hr.units
  refine ⟨_, (pss_cons (ps_setLc (i := 1) (own := [("_law_turn", 2)]) (g := gName 2) rfl sc_law_right_together.nd rfl rfl (sw_true rfl rfl rfl (by decide +kernel)) (pi_range1 (by rfl) T.range (pa_cons (pe_op op_add pe_int (pe_cl c_law_pick hr (by decide) (by rfl) (pa_cons (pv 0) (pa_cons pe_int pa_nil)))) pa_nil)) (blkOk_by (N := N_law_right_together) (sc := defScope s_law_right_together) (by decide +kernel)) (fun _ _ _ _ _ => pg_name (i := 2) sc_law_right_together.nd rfl (Or.inl rfl)) (fun _ _ _ _ _ => pts_nil) (fun _ _ _ _ _ => (pe_cl c_law_small hr (by decide) (by rfl) (pa_cons (pv 0) pa_nil))))
    (pss_cons (ps_if (pw_and (pt_cmpR op_eq (pe_callB (r := rLen K) call_lenY (by rfl) T.len PySem.boot_len (pa_cons (pv 1) pa_nil)) pe_int (nomark _)) (pw_and1 (pt_cmpR op_gt (pe_op op_mul (pe_op op_mul (pe_callB (r := rLen K) call_lenY (by rfl) T.len PySem.boot_len (pa_cons (pe_ix (r := rIxL K) ix_list (pe_ix (r := rIxL K) ix_list (pv 1) pe_int (fun _ _ => rfl)) pe_int (fun _ _ => rfl)) pa_nil)) (pe_callB (r := rLen K) call_lenY (by rfl) T.len PySem.boot_len (pa_cons (pe_ix (r := rIxL K) ix_list (pe_ix (r := rIxL K) ix_list (pv 1) pe_int (fun _ _ => rfl)) pe_int (fun _ _ => rfl)) pa_nil))) (pe_callB (r := rLen K) call_lenY (by rfl) T.len PySem.boot_len (pa_cons (pe_ix (r := rIxL K) ix_list (pe_ix (r := rIxL K) ix_list (pv 1) pe_int (fun _ _ => rfl)) pe_int (fun _ _ => rfl)) pa_nil))) pe_int (nomark _)))).pt (pss_one (ps_set (i := 1) sc_law_right_together.nd rfl (Or.inl rfl) (pe_slice (r := rSlL K) sl_list (pv 1) (po_some pe_int) (po_some pe_int)))) pss_nil)
    (pss_cons (ps_set (i := 3) sc_law_right_together.nd rfl (Or.inl rfl) (pe_callB (r := rLen K) call_lenY (by rfl) T.len PySem.boot_len (pa_cons (pv 1) pa_nil)))
    (pss_cons (ps_set (i := 4) sc_law_right_together.nd rfl (Or.inl rfl) (pe_cl c_law_together hr (by decide) (by rfl) (pa_cons (pv 1) pa_nil)))
    (pss_cons (ps_setLc (i := 5) (own := [("_law_row", 6)]) (g := gName 6) rfl sc_law_right_together.nd rfl rfl (sw_true rfl rfl rfl (by decide +kernel)) (pi_list (pv 1)) (blkOk_by (N := N_law_right_together) (sc := defScope s_law_right_together) (by decide +kernel)) (fun _ _ _ _ _ => pg_name (i := 6) sc_law_right_together.nd rfl (Or.inl rfl)) (fun _ _ _ _ _ => pts_nil) (fun _ _ _ _ _ => (pe_clI c_Family hr (by decide) (by rfl) (pa_cons (pe_ix (r := rIxL K) ix_list (pv 6) pe_int (fun _ _ => rfl)) (pa_cons (pe_ix (r := rIxL K) ix_list (pv 6) pe_int (fun _ _ => rfl)) pa_nil)))))
    (pss_cons (ps_if (pt_cmpR op_eq (pv 3) pe_int (nomark _)) (pss_one (ps_set (i := 7) sc_law_right_together.nd rfl (Or.inl rfl) (pe_lst (pa_cons (pe_clR c_beside hr (by decide) (by rfl) takes0 (pa_cons (pe_ix (r := rIxL K) ix_list (pv 5) pe_int (fun _ _ => rfl)) pa_nil)) (pa_cons (pe_clR c_both hr (by decide) (by rfl) takes0 (pa_cons (pe_ix (r := rIxL K) ix_list (pv 5) pe_int (fun _ _ => rfl)) pa_nil)) pa_nil))))) (pss_one (ps_if (pt_cmpR op_eq (pv 3) pe_int (nomark _)) (pss_one (ps_set (i := 7) sc_law_right_together.nd rfl (Or.inl rfl) (pe_lst (pa_cons (pe_clR c_beside hr (by decide) (by rfl) takes0 (pa_cons (pe_ix (r := rIxL K) ix_list (pv 5) pe_int (fun _ _ => rfl)) (pa_cons (pe_ix (r := rIxL K) ix_list (pv 5) pe_int (fun _ _ => rfl)) pa_nil))) (pa_cons (pe_clR c_both hr (by decide) (by rfl) takes0 (pa_cons (pe_ix (r := rIxL K) ix_list (pv 5) pe_int (fun _ _ => rfl)) (pa_cons (pe_ix (r := rIxL K) ix_list (pv 5) pe_int (fun _ _ => rfl)) pa_nil))) pa_nil))))) (pss_one (ps_set (i := 7) sc_law_right_together.nd rfl (Or.inl rfl) (pe_lst (pa_cons (pe_clR c_beside hr (by decide) (by rfl) takes0 (pa_cons (pe_ix (r := rIxL K) ix_list (pv 5) pe_int (fun _ _ => rfl)) (pa_cons (pe_ix (r := rIxL K) ix_list (pv 5) pe_int (fun _ _ => rfl)) (pa_cons (pe_ix (r := rIxL K) ix_list (pv 5) pe_int (fun _ _ => rfl)) pa_nil)))) (pa_cons (pe_clR c_both hr (by decide) (by rfl) takes0 (pa_cons (pe_ix (r := rIxL K) ix_list (pv 5) pe_int (fun _ _ => rfl)) (pa_cons (pe_ix (r := rIxL K) ix_list (pv 5) pe_int (fun _ _ => rfl)) (pa_cons (pe_ix (r := rIxL K) ix_list (pv 5) pe_int (fun _ _ => rfl)) pa_nil)))) pa_nil))))))))
    (pss_cons (ps_for PassesOwn.never rfl (pi_range1 (by rfl) T.range (pa_cons pe_int pa_nil)) (pg_name (i := 8) sc_law_right_together.nd rfl (Or.inl rfl))
    (pss_one (ps_if (pw_or (pt_not (pt_val (pe_callB (r := rIsi K) call_isi (by rfl) T.isinstance (by decide +kernel) (pa_cons (pe_ix (r := rIxL K) ix_list (pv 7) (pv 8) (fun _ _ => rfl)) (pa_cons (pe_glob (v := .ref C) (by rfl) fc.m rfl) pa_nil))))) (pw_or (pt_cmpR op_ne (pe_fld (pe_ix (r := rIxL K) ix_list (pv 7) (pv 8) (fun _ _ => rfl)) rfl) (pe_ix (r := rIxL K) ix_list (pv 4) pe_int (fun _ _ => rfl)) (nomark _)) (pw_or1 (pt_cmpR (r := rNeD K) (op_neD hu) (pe_fld (pe_ix (r := rIxL K) ix_list (pv 7) (pv 8) (fun _ _ => rfl)) rfl) (pe_callTy (r := rTupOf K) call_tupY (by rfl) T.tuple (by decide +kernel) (pa_cons (pe_ix (r := rIxL K) ix_list (pv 4) (pe_op op_add pe_int (pv 8)) (fun _ _ => rfl)) pa_nil)) (nomark _))))).pt (pss_one (ps_ret pe_bl)) pss_nil)))
    (pss_one (ps_ret (pe_and (pe_cmpR (r := rEqO K C (Pure K (p_eq C))) (op_clO c_eq hnf hr (by decide)) (pe_ix (r := rIxL K) ix_list (pv 7) pe_int (fun _ _ => rfl)) (pe_clC c_call hr (by decide) takes0 (pe_cl c_votes hr (by decide) (by rfl) (pa_cons pe_int (pa_cons (pv 3) pa_nil))) (pa_cons (pv 5) pa_nil)) (nomark _)) (pe_one (pe_cmpR (r := rEqO K C (Pure K (p_eq C))) (op_clO c_eq hnf hr (by decide)) (pe_ix (r := rIxL K) ix_list (pv 7) pe_int (fun _ _ => rfl)) (pe_clC c_call hr (by decide) takes0 (pe_cl c_votes hr (by decide) (by rfl) (pa_cons (pv 3) (pa_cons (pv 3) pa_nil))) (pa_cons (pv 5) pa_nil)) (nomark _))))))))))))), ?_⟩
  rintro ds p rfl De o _ ns
  have hd0 : DS (fun ns => [dr p ns, .no, .no, .no, .no, .no, .no, .no, .no]) 0 p := ⟨fun _ => rfl, fun _ _ => rfl⟩
  refine sd_seq (sd_asgN (S := fun ns => [dr p ns, .no, .no, .no, .no, .no, .no, .no, .no]) hd0 (en_lcF (j := 2) hd0 (by decide) (fun _ => rfl) (en_op (P1 := fun d => d = iD 1) (P2 := fun _ d => ∃ x, x < 3 ∧ d = iD x) hd0 (en_ec (d := iD 1) (fun _ => ec_int) hd0 rfl) (fun _ _ => en_pick (b := 3) hd0 (fun _ => ec_int) (by decide)) (fun x y hx hy => by
    obtain ⟨c, hc, rfl⟩ := hy
    subst hx
    exact ⟨_, r2_int (g := fun i j => i + j), rfl, 1 + c, by show D.int ((1 : Int) + (c : Int)) = D.int ((1 + c : Nat) : Int); congr 1, by omega, by omega⟩))) (fun d ns hdp => sd_go ?_) ns)
  obtain ⟨rows0, l1, l3, hg, rfl⟩ := hdp
  have lenE : ∀ {Z : Hp → Prop} {E : List Slot} (rows : Rws), E[1]? = some (.val (.lst (rows.map famR))) → EP K [p] H Z (tCB (rLen K) (tCons (tVar 1) tNil)) E (iD rows.length) := fun {Z E} rows h => ep_cb (ea_cons (ep_var (i := 1) h) ea_nil) rc_lenLn
  refine sd_seq (sd_ifJ (α := Rws) (G := Rows) (F := fun rows => [dr p ns, .val (.lst (rows.map famR)), .no, .no, .no, .no, .no, .no, .no]) (b := (rows0.length == 3) && decide ((200 : Int) < ((((rows0.map fun r => r.2.length).foldl (· * ·) 1 : Nat)) : Int))) (et_and (et_test (ep_op (lenE rows0 rfl) (ep_nat (n := 3)) r2_eqN)) fun h => ?_) (fun h go => ?_) (fun h go => go rows0 ⟨l1, l3, fun r hr => (hg r hr).1, fun r hr => (hg r hr).2, fun h3 => ?_⟩) (fun rows hR => sd_go ?_))
  · have h3 : rows0.length = 3 := by simpa using h
    match rows0, h3 with
    | [r, q, z], _ =>
      have row : ∀ {Z : Hp → Prop} {E : List Slot} {k : Nat} {r' : Nat × List (List Nat)}, E[1]? = some (.val (.lst ([r, q, z].map famR))) → ([r, q, z].map famR)[k]? = some (famR r') → EP K [p] H Z (tCB (rLen K) (tCons (tOp (rIxL K) (tOp (rIxL K) (tVar 1) (tC (.int (k : Int)))) (tC (.int 1))) tNil)) E (iD r'.2.length) := fun {Z E k r'} h hk =>
        ep_cb (ea_cons (ep_op (ep_op (ep_var (i := 1) h) ep_int (r2_ixL (atI_nat hk))) ep_int (r2_ixL (l := [iD r'.1, lsD r'.2]) (i := 1) (d := lsD r'.2) rfl)) ea_nil) rc_lenLn
      have small : ∀ (x : Nat × List (List Nat)), x ∈ [r, q, z] → x.2.length ≤ 16 := fun x hx => gf16 (hg x hx).1 (hg x hx).2
      have s1 := small r (by simp)
      have s2 := small q (by simp)
      have s3 := small z (by simp)
      refine et_is (et_test (ep_op (ep_op (x := iD (r.2.length * q.2.length)) (ep_is (ep_op (row (k := 0) (r' := r) rfl rfl) (row (k := 1) (r' := q) rfl rfl) (r2_intC (C := CMul) (g := fun i j => i * j) (.inl (by omega)))) (by unfold iD; rw [Int.natCast_mul])) (row (k := 2) (r' := z) rfl rfl) (r2_intC (C := CMul) (g := fun i j => i * j) (.inr (by omega)))) (ep_int (i := 200)) (r2_cmp (g := fun i j => decide (j < i))))) ?_
      simp [Int.natCast_mul]
  · have h' : rows0.length = 3 := by simp at h; exact h.1
    refine sd_asgC (d := .lst ((rows0.take 2).map famR)) (by rw [List.map_take]; exact ec_sl2 (ec_var (i := 1) rfl) (by rw [List.length_map]; omega)) (go (rows0.take 2) ⟨by rw [List.length_take]; omega, by rw [List.length_take]; omega, fun r hr => (hg r (List.mem_of_mem_take hr)).1, fun r hr => (hg r (List.mem_of_mem_take hr)).2, fun h3 => by rw [List.length_take] at h3; omega⟩)
  · simp [h3] at h
    omega
  · have ok := rows_ok hR
    have h1 := hR.l1
    have h3 := hR.l3
    refine sd_seq (sd_asg (d := iD rows.length) (lenE rows rfl) rfl (sd_go ?_))
    refine sd_seq (sd_asgC (d := togD rows) (ec_callA (eac_cons (ec_var (i := 1) rfl) eac_nil) ⟨rows, ok.tog, rfl, rfl⟩) (sd_go ?_))
    refine sd_seq (sd_asgL (l := fms C rows) (ef_lcC (j := 6) (c := famR) (ts := rows) (fun r => famD C r.1 r.2) (ec_var (i := 1) rfl) (by omega) (fun r hr' => ?_) (fun r _ => famD_im _ _ _)) (fms_im C rows) (sd_go ?_))
    · obtain ⟨hin, hle⟩ := ok.inn r hr'
      have row : ∀ {Z : Hp → Prop} {E : List Slot} {k : Nat} {d : D}, E[6]? = some (.val (famR r)) → ([iD r.1, lsD r.2])[k]? = some d → EP K [p] H Z (tOp (rIxL K) (tVar 6) (tC (.int (k : Int)))) E d := fun {Z E k d} h hk => ep_op (ep_var (i := 6) (d := .lst [iD r.1, lsD r.2]) h) ep_int (r2_ixL (atI_nat hk))
      exact ep_is (ep_make (ns := ["things", "lots"]) (m := [iD r.1, tsD (KM.leastLots r.2)]) (ea_cons (row (k := 0) rfl rfl) (ea_cons (row (k := 1) rfl rfl) ea_nil)) ⟨r.1, r.2, _, hin, .inr rfl, rfl, rfl, rfl⟩) (by rw [hle]; rfl)
    let S5 : List Slot := [dr p ns, .val (.lst (rows.map famR)), .no, .val (iD rows.length), .val (togD rows), .val (.lst (fms C rows)), .no, .no, .no]
    have fam : ∀ {k : Nat} {d : D}, (fms C rows)[k]? = some d → EP K [p] H (fun _ => True) (tOp (rIxL K) (tVar 5) (tC (.int (k : Int)))) S5 d := fun {k d} h => ep_op (ep_var (i := 5) (d := .lst (fms C rows)) rfl) ep_int (r2_ixL (atI_nat h))
    let A1 : D := famD C (KM.tog rows).1 (KM.srt (KM.tog rows).2.1)
    let A2 : D := famD C (KM.tog rows).1 (KM.srt (KM.tog rows).2.2)
    have imA : imAll [A1, A2] = true := by
      show ((famD C (KM.tog rows).1 (KM.srt (KM.tog rows).2.1)).im && ((famD C (KM.tog rows).1 (KM.srt (KM.tog rows).2.2)).im && true)) = true
      rw [famD_im, famD_im]
      rfl
    have told : ∀ {a : TA} {ex1 ex2 : L2.St → XK}, EA K [p] H (fun _ => True) a S5 (fms C rows) → EF K [p] H (fun _ => True) (tLst (tCons (tCallS (PureE K (fun ds d => p_star C ones [.tup ds] d) (fun ds C' x => q_star C CN CF ones [.tup ds] C' x)) ex1 a) (tCons (tCallS (PureE K (fun ds d => p_star C whole [.tup ds] d) (fun ds C' x => q_star C CN CF whole [.tup ds] C' x)) ex2 a) tNil))) S5 [A1, A2] := fun {a ex1 ex2} ha =>
      ef_lst (ea_cons (ep_callES ha ⟨rows, ok.ne, ok.one, by rw [ok.e1]; exact ok.c1, rfl, by rw [ok.e1]; exact (ok.d1 C).symm⟩) (ea_cons (ep_callES ha ⟨rows, ok.ne, ok.all, by rw [ok.e2]; exact ok.c2, rfl, by rw [ok.e2]; exact (ok.d2 C).symm⟩) ea_nil))
    have many : ∀ {Z : Hp → Prop} {E : List Slot} (k : Nat), E[3]? = some (.val (iD rows.length)) → ET K [p] H Z (tTest (tOp rEq (tVar 3) (tC (.int (k : Int))))) E (rows.length == k) := fun {Z E} k h => et_test (ep_op (ep_var h) (ep_nat (n := k)) r2_eqN)
    refine sd_seq (sd_if (many 1 rfl) (fun h => ?_) (fun h => sd_if (many 2 rfl) (fun h2 => ?_) (fun h2 => ?_)))
    · obtain ⟨d0, e⟩ := fms1 (C := C) (show rows.length = 1 by simpa using h)
      refine sd_asgL (l := [A1, A2]) (told (ef_ea e (ea_cons (fam (k := 0) (by rw [e]; rfl)) ea_nil))) imA (sd_go ?_)
      refine sd_seq (sd_forRP (n := 2) (fun _ => True) (ea_cons ep_int ea_nil) (by decide) (fun _ => [dr p ns, .val (.lst (rows.map famR)), .no, .val (iD rows.length), .val (togD rows), .val (.lst (fms C rows)), .no, .val (.lst [A1, A2]), .no]) rfl trivial (fun i hi _ => ?_) (fun _ => sd_go ?_))
      · have hi2 : i = 0 ∨ i = 1 := by omega
        have ix0 : EP K [p] H (fun _ => True) (tOp (rIxL K) (tVar 4) (tC (.int 0))) [dr p ns, .val (.lst (rows.map famR)), .no, .val (iD rows.length), .val (togD rows), .val (.lst (fms C rows)), .no, .val (.lst [A1, A2]), .val (.int i)] (iD (KM.tog rows).1) := ep_op (ep_var (i := 4) (d := togD rows) rfl) ep_int (r2_ixL rfl)
        rcases hi2 with rfl | rfl
        · have ix : EP K [p] H (fun _ => True) (tOp (rIxL K) (tVar 7) (tVar 8)) [dr p ns, .val (.lst (rows.map famR)), .no, .val (iD rows.length), .val (togD rows), .val (.lst (fms C rows)), .no, .val (.lst [A1, A2]), .val (.int (0 : Nat))] A1 := ep_op (ep_var (i := 7) (d := .lst [A1, A2]) rfl) (ep_var (i := 8) rfl) (r2_ixL rfl)
          exact sd_if (b := !true || (((KM.tog rows).1 != (KM.tog rows).1) || false)) (et_or (et_not (et_B (ep_isiO ix fc.ob))) fun _ => et_or (et_test (ep_op (ep_fld ix fc.ob.cl fc.nt rfl) ix0 r2_neN)) fun _ => et_test (ep_op (ep_fld ix fc.ob.cl fc.nl rfl) (ep_cb (ea_cons (ep_op (ep_var (i := 4) (d := togD rows) rfl) (ep_op (ep_int (i := 1)) (ep_var (i := 8) rfl) (r2_int (g := fun i j => i + j))) (r2_ixL (d := lsD (KM.srt (KM.tog rows).2.1)) rfl)) ea_nil) rc_tupleL) (r2_neD (b := false) (lsD_cmp _).2 (lsD_cmp _).2 ⟨fun h => by (cases h), fun h => absurd rfl h⟩))) (fun h => by simp at h) (fun _ => sd_lp trivial (.eq (.eq (.eq (.eq (.eq (.eq (.eq (.eq (.no .nil))))))))))
        · have ix : EP K [p] H (fun _ => True) (tOp (rIxL K) (tVar 7) (tVar 8)) [dr p ns, .val (.lst (rows.map famR)), .no, .val (iD rows.length), .val (togD rows), .val (.lst (fms C rows)), .no, .val (.lst [A1, A2]), .val (.int (1 : Nat))] A2 := ep_op (ep_var (i := 7) (d := .lst [A1, A2]) rfl) (ep_var (i := 8) rfl) (r2_ixL rfl)
          exact sd_if (b := !true || (((KM.tog rows).1 != (KM.tog rows).1) || false)) (et_or (et_not (et_B (ep_isiO ix fc.ob))) fun _ => et_or (et_test (ep_op (ep_fld ix fc.ob.cl fc.nt rfl) ix0 r2_neN)) fun _ => et_test (ep_op (ep_fld ix fc.ob.cl fc.nl rfl) (ep_cb (ea_cons (ep_op (ep_var (i := 4) (d := togD rows) rfl) (ep_op (ep_int (i := 1)) (ep_var (i := 8) rfl) (r2_int (g := fun i j => i + j))) (r2_ixL (d := lsD (KM.srt (KM.tog rows).2.2)) rfl)) ea_nil) rc_tupleL) (r2_neD (b := false) (lsD_cmp _).2 (lsD_cmp _).2 ⟨fun h => by (cases h), fun h => absurd rfl h⟩))) (fun h => by simp at h) (fun _ => sd_lp trivial (.eq (.eq (.eq (.eq (.eq (.eq (.eq (.eq (.no .nil))))))))))
      have hdE : DS (fun ns => [dr p ns, .val (.lst (rows.map famR)), .no, .val (iD rows.length), .val (togD rows), .val (.lst (fms C rows)), .no, .val (.lst [A1, A2]), .no]) 0 p := ⟨fun _ => rfl, fun _ _ => rfl⟩
      refine sd_retD (S := fun ns => [dr p ns, .val (.lst (rows.map famR)), .no, .val (iD rows.length), .val (togD rows), .val (.lst (fms C rows)), .no, .val (.lst [A1, A2]), .no]) (d := .bl true) hdE (ec_im (ep_is (ep_andV (b := true) (c := true) ?_ fun _ => ?_) rfl) rfl) o rfl
      · refine ep_is (ep_op (ep_op (ep_var (i := 7) (d := .lst [A1, A2]) rfl) ep_int (r2_ixL (d := A1) rfl)) (ep_is (d' := A1) (ep_callO (ns := ["things", "lots"]) (l := [iD rows.length, tsD (KM.leastLots (chAt 1 rows.length 1))]) (ep_call (ea_cons (ep_nat (n := 1)) (ea_cons (ep_var (i := 3) (d := iD rows.length) rfl) ea_nil)) ⟨1, rows.length, by decide, ok.v1.1, by rw [ok.v1.2]; exact ok.one, rfl, rfl⟩) (ea_cons (ep_var (i := 5) (d := .lst (fms C rows)) rfl) ea_nil) ⟨rows.length, ones rows.length, rows, _, ok.c1, .inr rfl, by rw [ok.v1.2, ok.e1]; rfl, rfl⟩) (ok.d1 C)) (r2_eqO ⟨_, _, _, _, rfl, rfl⟩)) (by simp)
      · refine ep_is (ep_op (ep_op (ep_var (i := 7) (d := .lst [A1, A2]) rfl) ep_int (r2_ixL (d := A2) rfl)) (ep_is (d' := A2) (ep_callO (ns := ["things", "lots"]) (l := [iD rows.length, tsD (KM.leastLots (chAt rows.length rows.length rows.length))]) (ep_call (ea_cons (ep_var (i := 3) (d := iD rows.length) rfl) (ea_cons (ep_var (i := 3) (d := iD rows.length) rfl) ea_nil)) ⟨rows.length, rows.length, h1, ok.v2.1, by rw [ok.v2.2]; exact ok.all, rfl, rfl⟩) (ea_cons (ep_var (i := 5) (d := .lst (fms C rows)) rfl) ea_nil) ⟨rows.length, whole rows.length, rows, _, ok.c2, .inr rfl, by rw [ok.v2.2, ok.e2]; rfl, rfl⟩) (ok.d2 C)) (r2_eqO ⟨_, _, _, _, rfl, rfl⟩)) (by simp)
    · obtain ⟨d0, d1, e⟩ := fms2 (C := C) (show rows.length = 2 by simpa using h2)
      refine sd_asgL (l := [A1, A2]) (told (ef_ea e (ea_cons (fam (k := 0) (by rw [e]; rfl)) (ea_cons (fam (k := 1) (by rw [e]; rfl)) ea_nil)))) imA (sd_go ?_)
      refine sd_seq (sd_forRP (n := 2) (fun _ => True) (ea_cons ep_int ea_nil) (by decide) (fun _ => [dr p ns, .val (.lst (rows.map famR)), .no, .val (iD rows.length), .val (togD rows), .val (.lst (fms C rows)), .no, .val (.lst [A1, A2]), .no]) rfl trivial (fun i hi _ => ?_) (fun _ => sd_go ?_))
      · have hi2 : i = 0 ∨ i = 1 := by omega
        have ix0 : EP K [p] H (fun _ => True) (tOp (rIxL K) (tVar 4) (tC (.int 0))) [dr p ns, .val (.lst (rows.map famR)), .no, .val (iD rows.length), .val (togD rows), .val (.lst (fms C rows)), .no, .val (.lst [A1, A2]), .val (.int i)] (iD (KM.tog rows).1) := ep_op (ep_var (i := 4) (d := togD rows) rfl) ep_int (r2_ixL rfl)
        rcases hi2 with rfl | rfl
        · have ix : EP K [p] H (fun _ => True) (tOp (rIxL K) (tVar 7) (tVar 8)) [dr p ns, .val (.lst (rows.map famR)), .no, .val (iD rows.length), .val (togD rows), .val (.lst (fms C rows)), .no, .val (.lst [A1, A2]), .val (.int (0 : Nat))] A1 := ep_op (ep_var (i := 7) (d := .lst [A1, A2]) rfl) (ep_var (i := 8) rfl) (r2_ixL rfl)
          exact sd_if (b := !true || (((KM.tog rows).1 != (KM.tog rows).1) || false)) (et_or (et_not (et_B (ep_isiO ix fc.ob))) fun _ => et_or (et_test (ep_op (ep_fld ix fc.ob.cl fc.nt rfl) ix0 r2_neN)) fun _ => et_test (ep_op (ep_fld ix fc.ob.cl fc.nl rfl) (ep_cb (ea_cons (ep_op (ep_var (i := 4) (d := togD rows) rfl) (ep_op (ep_int (i := 1)) (ep_var (i := 8) rfl) (r2_int (g := fun i j => i + j))) (r2_ixL (d := lsD (KM.srt (KM.tog rows).2.1)) rfl)) ea_nil) rc_tupleL) (r2_neD (b := false) (lsD_cmp _).2 (lsD_cmp _).2 ⟨fun h => by (cases h), fun h => absurd rfl h⟩))) (fun h => by simp at h) (fun _ => sd_lp trivial (.eq (.eq (.eq (.eq (.eq (.eq (.eq (.eq (.no .nil))))))))))
        · have ix : EP K [p] H (fun _ => True) (tOp (rIxL K) (tVar 7) (tVar 8)) [dr p ns, .val (.lst (rows.map famR)), .no, .val (iD rows.length), .val (togD rows), .val (.lst (fms C rows)), .no, .val (.lst [A1, A2]), .val (.int (1 : Nat))] A2 := ep_op (ep_var (i := 7) (d := .lst [A1, A2]) rfl) (ep_var (i := 8) rfl) (r2_ixL rfl)
          exact sd_if (b := !true || (((KM.tog rows).1 != (KM.tog rows).1) || false)) (et_or (et_not (et_B (ep_isiO ix fc.ob))) fun _ => et_or (et_test (ep_op (ep_fld ix fc.ob.cl fc.nt rfl) ix0 r2_neN)) fun _ => et_test (ep_op (ep_fld ix fc.ob.cl fc.nl rfl) (ep_cb (ea_cons (ep_op (ep_var (i := 4) (d := togD rows) rfl) (ep_op (ep_int (i := 1)) (ep_var (i := 8) rfl) (r2_int (g := fun i j => i + j))) (r2_ixL (d := lsD (KM.srt (KM.tog rows).2.2)) rfl)) ea_nil) rc_tupleL) (r2_neD (b := false) (lsD_cmp _).2 (lsD_cmp _).2 ⟨fun h => by (cases h), fun h => absurd rfl h⟩))) (fun h => by simp at h) (fun _ => sd_lp trivial (.eq (.eq (.eq (.eq (.eq (.eq (.eq (.eq (.no .nil))))))))))
      have hdE : DS (fun ns => [dr p ns, .val (.lst (rows.map famR)), .no, .val (iD rows.length), .val (togD rows), .val (.lst (fms C rows)), .no, .val (.lst [A1, A2]), .no]) 0 p := ⟨fun _ => rfl, fun _ _ => rfl⟩
      refine sd_retD (S := fun ns => [dr p ns, .val (.lst (rows.map famR)), .no, .val (iD rows.length), .val (togD rows), .val (.lst (fms C rows)), .no, .val (.lst [A1, A2]), .no]) (d := .bl true) hdE (ec_im (ep_is (ep_andV (b := true) (c := true) ?_ fun _ => ?_) rfl) rfl) o rfl
      · refine ep_is (ep_op (ep_op (ep_var (i := 7) (d := .lst [A1, A2]) rfl) ep_int (r2_ixL (d := A1) rfl)) (ep_is (d' := A1) (ep_callO (ns := ["things", "lots"]) (l := [iD rows.length, tsD (KM.leastLots (chAt 1 rows.length 1))]) (ep_call (ea_cons (ep_nat (n := 1)) (ea_cons (ep_var (i := 3) (d := iD rows.length) rfl) ea_nil)) ⟨1, rows.length, by decide, ok.v1.1, by rw [ok.v1.2]; exact ok.one, rfl, rfl⟩) (ea_cons (ep_var (i := 5) (d := .lst (fms C rows)) rfl) ea_nil) ⟨rows.length, ones rows.length, rows, _, ok.c1, .inr rfl, by rw [ok.v1.2, ok.e1]; rfl, rfl⟩) (ok.d1 C)) (r2_eqO ⟨_, _, _, _, rfl, rfl⟩)) (by simp)
      · refine ep_is (ep_op (ep_op (ep_var (i := 7) (d := .lst [A1, A2]) rfl) ep_int (r2_ixL (d := A2) rfl)) (ep_is (d' := A2) (ep_callO (ns := ["things", "lots"]) (l := [iD rows.length, tsD (KM.leastLots (chAt rows.length rows.length rows.length))]) (ep_call (ea_cons (ep_var (i := 3) (d := iD rows.length) rfl) (ea_cons (ep_var (i := 3) (d := iD rows.length) rfl) ea_nil)) ⟨rows.length, rows.length, h1, ok.v2.1, by rw [ok.v2.2]; exact ok.all, rfl, rfl⟩) (ea_cons (ep_var (i := 5) (d := .lst (fms C rows)) rfl) ea_nil) ⟨rows.length, whole rows.length, rows, _, ok.c2, .inr rfl, by rw [ok.v2.2, ok.e2]; rfl, rfl⟩) (ok.d2 C)) (r2_eqO ⟨_, _, _, _, rfl, rfl⟩)) (by simp)
    · obtain ⟨d0, d1, d2, e⟩ := fms3 (C := C) (show rows.length = 3 by simp at h h2; omega)
      refine sd_asgL (l := [A1, A2]) (told (ef_ea e (ea_cons (fam (k := 0) (by rw [e]; rfl)) (ea_cons (fam (k := 1) (by rw [e]; rfl)) (ea_cons (fam (k := 2) (by rw [e]; rfl)) ea_nil))))) imA (sd_go ?_)
      refine sd_seq (sd_forRP (n := 2) (fun _ => True) (ea_cons ep_int ea_nil) (by decide) (fun _ => [dr p ns, .val (.lst (rows.map famR)), .no, .val (iD rows.length), .val (togD rows), .val (.lst (fms C rows)), .no, .val (.lst [A1, A2]), .no]) rfl trivial (fun i hi _ => ?_) (fun _ => sd_go ?_))
      · have hi2 : i = 0 ∨ i = 1 := by omega
        have ix0 : EP K [p] H (fun _ => True) (tOp (rIxL K) (tVar 4) (tC (.int 0))) [dr p ns, .val (.lst (rows.map famR)), .no, .val (iD rows.length), .val (togD rows), .val (.lst (fms C rows)), .no, .val (.lst [A1, A2]), .val (.int i)] (iD (KM.tog rows).1) := ep_op (ep_var (i := 4) (d := togD rows) rfl) ep_int (r2_ixL rfl)
        rcases hi2 with rfl | rfl
        · have ix : EP K [p] H (fun _ => True) (tOp (rIxL K) (tVar 7) (tVar 8)) [dr p ns, .val (.lst (rows.map famR)), .no, .val (iD rows.length), .val (togD rows), .val (.lst (fms C rows)), .no, .val (.lst [A1, A2]), .val (.int (0 : Nat))] A1 := ep_op (ep_var (i := 7) (d := .lst [A1, A2]) rfl) (ep_var (i := 8) rfl) (r2_ixL rfl)
          exact sd_if (b := !true || (((KM.tog rows).1 != (KM.tog rows).1) || false)) (et_or (et_not (et_B (ep_isiO ix fc.ob))) fun _ => et_or (et_test (ep_op (ep_fld ix fc.ob.cl fc.nt rfl) ix0 r2_neN)) fun _ => et_test (ep_op (ep_fld ix fc.ob.cl fc.nl rfl) (ep_cb (ea_cons (ep_op (ep_var (i := 4) (d := togD rows) rfl) (ep_op (ep_int (i := 1)) (ep_var (i := 8) rfl) (r2_int (g := fun i j => i + j))) (r2_ixL (d := lsD (KM.srt (KM.tog rows).2.1)) rfl)) ea_nil) rc_tupleL) (r2_neD (b := false) (lsD_cmp _).2 (lsD_cmp _).2 ⟨fun h => by (cases h), fun h => absurd rfl h⟩))) (fun h => by simp at h) (fun _ => sd_lp trivial (.eq (.eq (.eq (.eq (.eq (.eq (.eq (.eq (.no .nil))))))))))
        · have ix : EP K [p] H (fun _ => True) (tOp (rIxL K) (tVar 7) (tVar 8)) [dr p ns, .val (.lst (rows.map famR)), .no, .val (iD rows.length), .val (togD rows), .val (.lst (fms C rows)), .no, .val (.lst [A1, A2]), .val (.int (1 : Nat))] A2 := ep_op (ep_var (i := 7) (d := .lst [A1, A2]) rfl) (ep_var (i := 8) rfl) (r2_ixL rfl)
          exact sd_if (b := !true || (((KM.tog rows).1 != (KM.tog rows).1) || false)) (et_or (et_not (et_B (ep_isiO ix fc.ob))) fun _ => et_or (et_test (ep_op (ep_fld ix fc.ob.cl fc.nt rfl) ix0 r2_neN)) fun _ => et_test (ep_op (ep_fld ix fc.ob.cl fc.nl rfl) (ep_cb (ea_cons (ep_op (ep_var (i := 4) (d := togD rows) rfl) (ep_op (ep_int (i := 1)) (ep_var (i := 8) rfl) (r2_int (g := fun i j => i + j))) (r2_ixL (d := lsD (KM.srt (KM.tog rows).2.2)) rfl)) ea_nil) rc_tupleL) (r2_neD (b := false) (lsD_cmp _).2 (lsD_cmp _).2 ⟨fun h => by (cases h), fun h => absurd rfl h⟩))) (fun h => by simp at h) (fun _ => sd_lp trivial (.eq (.eq (.eq (.eq (.eq (.eq (.eq (.eq (.no .nil))))))))))
      have hdE : DS (fun ns => [dr p ns, .val (.lst (rows.map famR)), .no, .val (iD rows.length), .val (togD rows), .val (.lst (fms C rows)), .no, .val (.lst [A1, A2]), .no]) 0 p := ⟨fun _ => rfl, fun _ _ => rfl⟩
      refine sd_retD (S := fun ns => [dr p ns, .val (.lst (rows.map famR)), .no, .val (iD rows.length), .val (togD rows), .val (.lst (fms C rows)), .no, .val (.lst [A1, A2]), .no]) (d := .bl true) hdE (ec_im (ep_is (ep_andV (b := true) (c := true) ?_ fun _ => ?_) rfl) rfl) o rfl
      · refine ep_is (ep_op (ep_op (ep_var (i := 7) (d := .lst [A1, A2]) rfl) ep_int (r2_ixL (d := A1) rfl)) (ep_is (d' := A1) (ep_callO (ns := ["things", "lots"]) (l := [iD rows.length, tsD (KM.leastLots (chAt 1 rows.length 1))]) (ep_call (ea_cons (ep_nat (n := 1)) (ea_cons (ep_var (i := 3) (d := iD rows.length) rfl) ea_nil)) ⟨1, rows.length, by decide, ok.v1.1, by rw [ok.v1.2]; exact ok.one, rfl, rfl⟩) (ea_cons (ep_var (i := 5) (d := .lst (fms C rows)) rfl) ea_nil) ⟨rows.length, ones rows.length, rows, _, ok.c1, .inr rfl, by rw [ok.v1.2, ok.e1]; rfl, rfl⟩) (ok.d1 C)) (r2_eqO ⟨_, _, _, _, rfl, rfl⟩)) (by simp)
      · refine ep_is (ep_op (ep_op (ep_var (i := 7) (d := .lst [A1, A2]) rfl) ep_int (r2_ixL (d := A2) rfl)) (ep_is (d' := A2) (ep_callO (ns := ["things", "lots"]) (l := [iD rows.length, tsD (KM.leastLots (chAt rows.length rows.length rows.length))]) (ep_call (ea_cons (ep_var (i := 3) (d := iD rows.length) rfl) (ea_cons (ep_var (i := 3) (d := iD rows.length) rfl) ea_nil)) ⟨rows.length, rows.length, h1, ok.v2.1, by rw [ok.v2.2]; exact ok.all, rfl, rfl⟩) (ea_cons (ep_var (i := 5) (d := .lst (fms C rows)) rfl) ea_nil) ⟨rows.length, whole rows.length, rows, _, ok.c2, .inr rfl, by rw [ok.v2.2, ok.e2]; rfl, rfl⟩) (ok.d2 C)) (r2_eqO ⟨_, _, _, _, rfl, rfl⟩)) (by simp)
end
end Y
set_option Elab.async false
set_option linter.all false
set_option autoImplicit false
set_option maxRecDepth 100000
set_option maxHeartbeats 4000000
namespace Y
open PySem L2
section
variable {K : PySem.W.Frag} {B : List Addr} {H0 : Hp} {Z : Hp → Prop} {E : List Slot} {te ta tb : TE} {l : List D}
theorem cut_ab {xs : List V} {a b : Nat} (ha : a ≤ xs.length) (hb : b ≤ xs.length) : cutV xs (some (a : Int)) (some (b : Int)) = (xs.drop a).take (b - a) := by
  unfold cutV
  rw [HT.sIx_nat, HT.sIx_nat, Nat.min_eq_left ha, Nat.min_eq_left hb]
theorem cut_a {xs : List V} {a : Nat} (ha : a ≤ xs.length) : cutV xs (some (a : Int)) none = xs.drop a := by
  unfold cutV
  rw [HT.sIx_nat, HT.sIx_none, Nat.min_eq_left ha]
  refine List.take_of_length_le ?_
  rw [List.length_drop]
  omega
theorem ef_slAB {a b : Nat} (h : EP K B H0 Z te E (.lst l)) (ha : EP K B H0 Z ta E (iD a)) (hb : EP K B H0 Z tb E (iD b)) (h1 : a ≤ l.length) (h2 : b ≤ l.length) : EF K B H0 Z (tSl (rSlL K) te (tPart ta) (tPart tb)) E ((l.drop a).take (b - a)) := fun σ H e Q q =>
  h σ H e _ fun v H1 e1 g => ha σ H1 (e.ext e1) _ fun u H2 e2 g2 => by
    cases g2
    refine ⟨(a : Int), rfl, hb σ H2 (e.ext (e1.trans e2)) _ fun u3 H3 e3 g3 => ?_⟩
    cases g3
    obtain ⟨r, xs, rfl, hq, hx⟩ := g.lst_inv
    have hl := hx.length
    refine ⟨(b : Int), rfl, r, xs, rfl, sqL_ex (e2.trans e3) hq, fun y ny => ?_⟩
    rw [cut_ab (by omega) (by omega)]
    have ex := (e1.trans e2).trans e3
    exact q y _ _ (ex.back ny) (ex.trans (Ex.new ny)) upd_same ((((hx.drop a).take (b - a)).mono (e2.trans e3)).mono (Ex.new ny))
theorem ef_slA {a : Nat} (h : EP K B H0 Z te E (.lst l)) (ha : EP K B H0 Z ta E (iD a)) (h1 : a ≤ l.length) : EF K B H0 Z (tSl (rSlL K) te (tPart ta) tNoPart) E (l.drop a) := fun σ H e Q q =>
  h σ H e _ fun v H1 e1 g => ha σ H1 (e.ext e1) _ fun u H2 e2 g2 => by
    cases g2
    obtain ⟨r, xs, rfl, hq, hx⟩ := g.lst_inv
    have hl := hx.length
    refine ⟨(a : Int), rfl, r, xs, rfl, sqL_ex e2 hq, fun y ny => ?_⟩
    rw [cut_a (by omega)]
    have ex := e1.trans e2
    exact q y _ _ (ex.back ny) (ex.trans (Ex.new ny)) upd_same (((hx.drop a).mono e2).mono (Ex.new ny))
theorem wI_cmp (a : Str) (k : Int) (h : (D.str a).so = true) : Cmpb (wI a k) := ⟨rfl, by simp [D.so, soAll, wI] at h ⊢; exact h, by simp [D.dep, depAll, wI]⟩
theorem wS_cmp (a b : Str) (h : (D.str a).so = true) (h2 : (D.str b).so = true) : Cmpb (wS a b) := ⟨rfl, by simp [D.so, soAll, wS] at h h2 ⊢; exact ⟨h, h2⟩, by simp [D.dep, depAll, wS]⟩
end
def bads (n : Nat) : List D := [iD n, .int (-1), .bl true, .non, .str "0"]
/-- no thing of a family of n -/
def Bad (n : Nat) (d : D) : Prop := d.tyN.isSome = true ∧ isTh d n = false ∧ d.im = true
theorem bads_at (n : Nat) {k : Nat} (hk : k < 5) : ∃ z, atI (bads n) (k : Int) = some z ∧ z.im = true ∧ Bad n z := by
  have h : k = 0 ∨ k = 1 ∨ k = 2 ∨ k = 3 ∨ k = 4 := by omega
  rcases h with rfl | rfl | rfl | rfl | rfl
  · exact ⟨_, rfl, rfl, rfl, by simp [isTh, iD], rfl⟩
  · exact ⟨_, rfl, rfl, rfl, rfl, rfl⟩
  · exact ⟨_, rfl, rfl, rfl, rfl, rfl⟩
  · exact ⟨_, rfl, rfl, rfl, rfl, rfl⟩
  · exact ⟨_, rfl, rfl, rfl, rfl, rfl⟩
theorem rg_get {n x : Nat} (h : x < n) : (List.range n).getD x 0 = x := by simp [List.getD, h]
section
variable {P : Program} {w : World} {K : PySem.W.Frag} {mg : Str → Option Value} {base : Heap}
/-! wrong_names -/
abbrev s_law_wrong_names : Stmt := topS 73
abbrev N_law_wrong_names : List Str := ["_law_draws_here", "_law_fam", "_law_size", "_law_place", "_law_good", "_law_bad", "_law_wrong", "_law_way", "_law_wide", "_law_twice", "_law_both_bad"]
theorem sc_law_wrong_names : FnScope N_law_wrong_names ["_law_draws_here", "_law_fam", "_law_size"] (defScope s_law_wrong_names) := ⟨rfl, rfl, rfl, by decide +kernel, rfl, by decide +kernel, by decide +kernel⟩
def ok_wn (C : Addr) (ds : List D) : Prop := ∃ (n : Nat) (L : List (List Nat)), KM.GF n L ∧ n ≤ 7 ∧ ds = [famD C n L, iD n]
theorem ok_law_wrong_names {f C CN CM : Addr} {fd : FuncData} (F : Fun K "_law_wrong_names" "_law_wrong_names" s_law_wrong_names f fd) (T : Txt mg) (c_law_pick : Cl P w K mg base 1 "_law_pick" (PickP K)) (c_law_names_word : Cl P w K mg base 8 "_law_names_word" (Pure K (p_nword C CN CM))) :
    FnOk P w K mg base CX0 9 f fd ["_law_draws_here", "_law_fam", "_law_size"] (DrawP K (ok_wn C) p_true) := by
  refine draw_ok F sc_law_wrong_names (fun ds h => by obtain ⟨_, _, _, _, rfl⟩ := h; rfl) (by decide) fun cdv A outer s H E hr => ?_
  have hu := hr.units
  refine ⟨_, (pss_cons (ps_set (i := 3) sc_law_wrong_names.nd rfl (Or.inl rfl) (pe_cl c_law_pick hr (by decide) (by rfl) (pa_cons (pv 0) (pa_cons (pv 2) pa_nil))))
    (pss_cons (ps_set (i := 4) sc_law_wrong_names.nd rfl (Or.inl rfl) (pe_listRg rfl (by rfl) T.list (prg_1 (by rfl) T.range (pv 2))))
    (pss_cons (ps_set (i := 5) sc_law_wrong_names.nd rfl (Or.inl rfl) (pe_ix (r := rIxL K) ix_list (pe_lst (pa_cons (pv 2) (pa_cons (pe_un un_neg pe_int) (pa_cons pe_bl (pa_cons pe_non (pa_cons pe_str pa_nil)))))) (pe_cl c_law_pick hr (by decide) (by rfl) (pa_cons (pv 0) (pa_cons pe_int pa_nil))) (fun _ _ => rfl)))
    (pss_cons (ps_set (i := 6) sc_law_wrong_names.nd rfl (Or.inl rfl) (pe_op op_cat (pe_op op_cat (pe_slice (r := rSlL K) sl_list (pv 4) (po_some pe_int) (po_some (pv 3))) (pe_lst (pa_cons (pv 5) pa_nil))) (pe_slice (r := rSlL K) sl_list (pv 4) (po_some (pe_op op_add (pv 3) pe_int)) po_none)))
    (pss_cons (ps_for PassesOwn.never rfl (pi_range1 (by rfl) T.range (pa_cons pe_int pa_nil)) (pg_name (i := 7) sc_law_wrong_names.nd rfl (Or.inl rfl))
    (pss_cons (ps_if (pt_cmpR (r := rNeD K) (op_neD hu) (pe_cl c_law_names_word hr (by decide) (by rfl) (pa_cons (pv 1) (pa_cons (pv 6) (pa_cons (pv 2) (pa_cons (pv 7) pa_nil))))) (pe_tup (pa_cons pe_str (pa_cons (pv 3) pa_nil))) (nomark _)) (pss_one (ps_ret pe_bl)) pss_nil)
    (pss_cons (ps_if (pt_cmpR (r := rNeD K) (op_neD hu) (pe_cl c_law_names_word hr (by decide) (by rfl) (pa_cons (pv 1) (pa_cons (pe_op op_cat (pv 4) (pe_lst (pa_cons pe_int pa_nil))) (pa_cons (pv 2) (pa_cons (pv 7) pa_nil))))) (pe_tup (pa_cons pe_str (pa_cons (pe_un un_neg pe_int) pa_nil))) (nomark _)) (pss_one (ps_ret pe_bl)) pss_nil)
    (pss_one (ps_if (pw_or (pt_cmpR (r := rNeD K) (op_neD hu) (pe_cl c_law_names_word hr (by decide) (by rfl) (pa_cons (pv 1) (pa_cons (pe_slice (r := rSlL K) sl_list (pv 4) (po_some pe_int) po_none) (pa_cons (pv 2) (pa_cons (pv 7) pa_nil))))) (pe_tup (pa_cons pe_str (pa_cons (pe_un un_neg pe_int) pa_nil))) (nomark _)) (pw_or1 (pt_cmpR op_ne (pe_ix (r := rIxT K) ix_tup (pe_cl c_law_names_word hr (by decide) (by rfl) (pa_cons (pv 1) (pa_cons pe_non (pa_cons (pv 2) (pa_cons (pv 7) pa_nil))))) pe_int (fun _ _ => rfl)) (pe_un un_neg pe_int) (nomark _)))).pt (pss_one (ps_ret pe_bl)) pss_nil)))))
    (pss_cons (ps_for PassesOwn.never rfl (pi_list (pe_lst (pa_cons pe_int (pa_cons pe_int (pa_cons pe_bl (pa_cons pe_non pa_nil)))))) (pg_name (i := 8) sc_law_wrong_names.nd rfl (Or.inl rfl))
    (pss_one (ps_if (pt_cmpR (r := rNeD K) (op_neD hu) (pe_cl c_law_names_word hr (by decide) (by rfl) (pa_cons (pv 1) (pa_cons (pv 6) (pa_cons (pv 8) (pa_cons pe_int pa_nil))))) (pe_tup (pa_cons pe_str (pa_cons pe_str pa_nil))) (nomark _)) (pss_one (ps_ret pe_bl)) pss_nil)))
    (pss_cons (ps_if (pt_cmpR op_gt (pv 2) pe_int (nomark _)) (pss_cons (ps_set (i := 9) sc_law_wrong_names.nd rfl (Or.inl rfl) (pe_op op_cat (pe_slice (r := rSlL K) sl_list (pv 4) (po_some pe_int) (po_some (pe_op op_sub (pv 2) pe_int))) (pe_lst (pa_cons (pe_ix (r := rIxL K) ix_list (pv 4) pe_int (fun _ _ => rfl)) pa_nil))))
    (pss_cons (ps_set (i := 10) sc_law_wrong_names.nd rfl (Or.inl rfl) (pe_op op_cat (pe_op op_cat (pe_lst (pa_cons pe_int (pa_cons pe_int pa_nil))) (pe_slice (r := rSlL K) sl_list (pv 4) (po_some pe_int) (po_some (pe_op op_sub (pv 2) pe_int)))) (pe_lst (pa_cons (pv 2) pa_nil))))
    (pss_cons (ps_if (pt_cmpR (r := rNeD K) (op_neD hu) (pe_cl c_law_names_word hr (by decide) (by rfl) (pa_cons (pv 1) (pa_cons (pv 9) (pa_cons pe_int (pa_cons pe_int pa_nil))))) (pe_tup (pa_cons pe_str (pa_cons (pe_op op_sub (pv 2) pe_int) pa_nil))) (nomark _)) (pss_one (ps_ret pe_bl)) pss_nil)
    (pss_cons (ps_if (pw_and (pt_cmpR op_gt (pv 2) pe_int (nomark _)) (pw_and1 (pt_cmpR (r := rNeD K) (op_neD hu) (pe_cl c_law_names_word hr (by decide) (by rfl) (pa_cons (pv 1) (pa_cons (pv 10) (pa_cons pe_int (pa_cons pe_int pa_nil))))) (pe_tup (pa_cons pe_str (pa_cons (pe_op op_sub (pv 2) pe_int) pa_nil))) (nomark _)))).pt (pss_one (ps_ret pe_bl)) pss_nil)
    (pss_one (ps_if (pt_cmpR (r := rNeD K) (op_neD hu) (pe_cl c_law_names_word hr (by decide) (by rfl) (pa_cons (pv 1) (pa_cons (pv 9) (pa_cons (pv 2) (pa_cons pe_int pa_nil))))) (pe_tup (pa_cons pe_str (pa_cons pe_int pa_nil))) (nomark _)) (pss_one (ps_ret pe_bl)) pss_nil)))))) pss_nil)
    (pss_one (ps_ret pe_bl))))))))), ?_⟩
  rintro ds p ⟨n, L, g, hn, rfl⟩ De o _ ns
  have n1 := g.n1
  have hi := gf_in g (show n ≤ 9 by omega)
  have hd0 : DS (fun ns => [dr p ns, .val (famD C n L), .val (iD n), .no, .no, .no, .no, .no, .no, .no, .no]) 0 p := ⟨fun _ => rfl, fun _ _ => rfl⟩
  refine sd_seq (sd_asgN (S := fun ns => [dr p ns, .val (famD C n L), .val (iD n), .no, .no, .no, .no, .no, .no, .no, .no]) hd0 (en_pick (b := n) hd0 (fun _ => ec_var rfl) n1) (fun d ns hdp => sd_go ?_) ns)
  obtain ⟨x, hx, rfl⟩ := hdp
  refine sd_seq (sd_asgO (l := (List.range n).map iD) (ef_is (ef_lstRg1 (ep_var (i := 2) (d := iD n) rfl) (by omega)) (by rw [show ((n : Int)).toNat = n by omega])) (imAll_nD _) fun q1 => sd_go ?_)
  have hd1 : DS (fun ns => [dr p ns, .val (famD C n L), .val (iD n), .val (iD x), .own q1 ((List.range n).map iD), .no, .no, .no, .no, .no, .no]) 0 p := ⟨fun _ => rfl, fun _ _ => rfl⟩
  refine sd_seq (sd_asgN (S := fun ns => [dr p ns, .val (famD C n L), .val (iD n), .val (iD x), .own q1 ((List.range n).map iD), .no, .no, .no, .no, .no, .no]) hd1
    (en_op (P1 := fun d => d = .lst (bads n)) (P2 := fun _ d => ∃ x, x < 5 ∧ d = iD x) (P := Bad n) hd1 (en_ec (d := .lst (bads n)) (fun _ => ec_lst (eac_cons (ec_var (d := iD n) rfl) (eac_cons (ec_im (ep_un (x := .int 1) ep_int r1_neg) rfl) (eac_cons (ec_im ep_bl rfl) (eac_cons (ec_im ep_non rfl) (eac_cons (ec_im ep_str rfl) eac_nil))))) (by show 5 ≤ 100000; decide)) hd1 rfl)
      (fun _ _ => en_pick (b := 5) hd1 (fun _ => ec_int) (by decide)) (fun x y hx hy => by
        obtain ⟨k, hk, rfl⟩ := hy
        subst hx
        obtain ⟨z, h1, h2, h3⟩ := bads_at n hk
        exact ⟨z, r2_ixL h1, h2, h3⟩)) (fun dB ns hB => sd_go ?_) ns)
  obtain ⟨bT, bI, bM⟩ := hB
  have lenG : ((List.range n).map iD).length = n := by simp
  let Wr : List D := (List.range x).map iD ++ dB :: ((List.range n).drop (x + 1)).map iD
  have good : ∀ {Z : Hp → Prop} {E : List Slot}, E[4]? = some (.own q1 ((List.range n).map iD)) → EP K [p] H Z (tVar 4) E (.lst ((List.range n).map iD)) := fun {Z E} h => ep_own h
  refine sd_seq (sd_asgL (l := Wr) (ef_is (ef_cat (el_new (ef_cat (el_new (ef_slAB (a := 0) (b := x) (good rfl) ep_n0 (ep_var (i := 3) (d := iD x) rfl) (by omega) (by omega))) (el_new (ef_lst (ea_cons (ep_var (i := 5) (d := dB) rfl) ea_nil))) (by simp <;> omega))) (el_new (ef_slA (a := x + 1) (good rfl) (ep_is (ep_op (ep_var (i := 3) (d := iD x) rfl) ep_n1 r2_int) (by unfold iD; rw [Int.natCast_add])) (by omega))) (by simp <;> omega)) ?_) ?_ (sd_go ?_))
  · simp only [Wr, List.drop_zero, Nat.sub_zero]
    rw [← List.map_take, ← List.map_drop, List.take_range, Nat.min_eq_left (by omega)]
    simp
  · exact imAll_append (imAll_nD _) (by show (dB.im && imAll _) = true; rw [bM, imAll_nD]; rfl)
  have nw : ∀ {Z : Hp → Prop} {E : List Slot} {tn tw ty : TE} {sn wd d : D} {way : Nat}, E[1]? = some (.val (famD C n L)) → EP K [p] H Z tn E sn → EP K [p] H Z tw E wd → EP K [p] H Z ty E (iD way) → Way C CN CM (famD C n L) sn wd way d → EP K [p] H Z (tCall (Pure K (p_nword C CN CM)) [] E0 (tCons (tVar 1) (tCons tn (tCons tw (tCons ty tNil))))) E d := fun {Z E tn tw ty sn wd d way} h1 h2 h3 h4 h5 =>
    ep_call (ea_cons (ep_var (i := 1) h1) (ea_cons h2 (ea_cons h3 (ea_cons h4 ea_nil)))) ⟨_, _, _, way, h5, rfl⟩
  have bW : ∀ {sn : D} {k : Int} {way : Nat}, way < 2 → BadN n n sn k → Way C CN CM (famD C n L) sn (iD n) way (wI "names" k) := fun {sn k way} hw hb => by
    have h : way = 0 ∨ way = 1 := by omega
    rcases h with rfl | rfl
    · exact .names (.inr ⟨rfl, n, n, L, sn, k, by omega, n1, by omega, hb, rfl, rfl⟩)
    · exact .names1 ⟨rfl, n, L, sn, k, by omega, rfl, rfl, .inl hb⟩
  have nNames : (D.str "names").so = true := by decide +kernel
  have ne : ∀ {Z : Hp → Prop} {E : List Slot} {t1 t2 : TE} {k : Int}, EP K [p] H Z t1 E (wI "names" k) → EP K [p] H Z t2 E (.int k) → ET K [p] H Z (tTest (tOp (rNeD K) t1 (tTup (tCons (tC (.str "names")) (tCons t2 tNil))))) E false := fun {Z E t1 t2 k} h1 h2 => et_test (ep_op h1 (ep_tup (ea_cons ep_str (ea_cons h2 ea_nil))) (r2_neD (b := false) (wI_cmp _ _ nNames) (wI_cmp _ _ nNames) ⟨fun h => by (cases h), fun h => absurd rfl h⟩))
  have bWr : BadN n n (.lst Wr) (x : Int) := by
    have h := BadN.at_ (n := n) (w := n) (s := .lst Wr) (e := dB) (f := List.range x) (r := ((List.range n).drop (x + 1)).map iD) (.inr rfl) (by simp <;> omega) (fun y hy => by have := List.mem_range.mp hy; omega) bT bI
    rwa [List.length_range] at h
  have m1 : ∀ {Z : Hp → Prop} {E : List Slot}, EP K [p] H Z (tUn (rU fun i => .int (-i)) (tC (.int 1))) E (.int (-1)) := fun {Z E} => ep_un (x := .int 1) ep_int r1_neg
  refine sd_seq (sd_forRP (n := 2) (fun _ => True) (ea_cons ep_int ea_nil) (by decide) (fun _ => [dr p ns, .val (famD C n L), .val (iD n), .val (iD x), .own q1 ((List.range n).map iD), .val dB, .val (.lst Wr), .no, .no, .no, .no]) rfl trivial (fun i hi2 _ => ?_) (fun _ => sd_go ?_))
  · have hi2' : i < 2 := by omega
    refine sd_seq (sd_if (ne (nw rfl (ep_var (i := 6) (d := .lst Wr) rfl) (ep_var (i := 2) (d := iD n) rfl) (ep_var (i := 7) (d := iD i) rfl) (bW hi2' bWr)) (ep_var (i := 3) (d := .int (x : Int)) rfl)) (fun h => by cases h) (fun _ => sd_go ?_))
    refine sd_seq (sd_if (ne (nw rfl (EF.p (ef_cat (el_own (i := 4) rfl) (el_new (ef_lst (ea_cons (ep_int (i := 0)) ea_nil))) (by simp <;> omega))) (ep_var (i := 2) (d := iD n) rfl) (ep_var (i := 7) (d := iD i) rfl) (bW hi2' (.len (.inr rfl) (by simp)))) m1) (fun h => by cases h) (fun _ => sd_go ?_))
    refine sd_if (et_or (ne (nw rfl (EF.p (ef_slA (a := 1) (good rfl) ep_n1 (by omega))) (ep_var (i := 2) (d := iD n) rfl) (ep_var (i := 7) (d := iD i) rfl) (bW hi2' (.len (.inr rfl) (by simp <;> omega)))) m1) fun _ => et_test (ep_op (ep_op (nw rfl ep_non (ep_var (i := 2) (d := iD n) rfl) (ep_var (i := 7) (d := iD i) rfl) (bW hi2' (.no (ty := "NoneType") rfl rfl))) (ep_int (i := 1)) (r2_ixT (l := [.str "names", .int (-1)]) (d := .int (-1)) rfl)) m1 r2_neI)) (fun h => by simp at h) (fun _ => sd_lp trivial (.eq (.eq (.eq (.eq (.eq (.eq (.eq (.no (.eq (.eq (.eq .nil))))))))))))
  have nNum : (D.str "number").so = true := by decide +kernel
  have nSize : (D.str "size").so = true := by decide +kernel
  refine sd_seq (sd_forLP (c := fun (d : D) => d) (ts := [.int 0, .int 61, .bl true, .non]) (fun _ => True) (ec_lst (eac_cons (ec_im ep_int rfl) (eac_cons (ec_im ep_int rfl) (eac_cons (ec_im ep_bl rfl) (eac_cons (ec_im ep_non rfl) eac_nil)))) (by show 4 ≤ 100000; decide)) (fun _ => [dr p ns, .val (famD C n L), .val (iD n), .val (iD x), .own q1 ((List.range n).map iD), .val dB, .val (.lst Wr), .no, .no, .no, .no]) rfl trivial (fun Z' i wd hwd _ => ?_) (fun _ => sd_go ?_))
  · have hw : wd.tyN.isSome = true ∧ (isInt wd 1 = false ∨ ∃ m : Nat, wd = iD m ∧ 60 < m) := by
      have hm := List.mem_of_getElem? hwd
      simp only [List.mem_cons, List.not_mem_nil, or_false] at hm
      rcases hm with rfl | rfl | rfl | rfl
      · exact ⟨rfl, .inl (by decide)⟩
      · exact ⟨rfl, .inr ⟨61, rfl, by decide⟩⟩
      · exact ⟨rfl, .inl rfl⟩
      · exact ⟨rfl, .inl rfl⟩
    refine sd_if (et_test (ep_op (nw (way := 0) (d := wS "number" "size") rfl (ep_var (i := 6) (d := .lst Wr) rfl) (ep_var (i := 8) (d := wd) rfl) ep_n0 (.number (.inl ⟨rfl, n, L, _, wd, hw.1, hw.2, rfl, rfl⟩))) (ep_tup (ea_cons ep_str (ea_cons ep_str ea_nil))) (r2_neD (b := false) (wS_cmp _ _ nNum nSize) (wS_cmp _ _ nNum nSize) ⟨fun h => by (cases h), fun h => absurd rfl h⟩))) (fun h => by cases h) (fun _ => sd_lp trivial (.eq (.eq (.eq (.eq (.eq (.eq (.eq (.eq (.no (.eq (.eq .nil))))))))))))
  have fin : ∀ {S9 S10 : Slot}, (∀ q l, S9 ≠ .own q l) → (∀ q l, S10 ≠ .own q l) → SD K [p] H (fun _ => True) (tRet (tC (.bl true))) De [dr p ns, .val (famD C n L), .val (iD n), .val (iD x), .own q1 ((List.range n).map iD), .val dB, .val (.lst Wr), .no, .no, S9, S10] := fun {S9 S10} h9 h10 => by
    have hdE : DS (fun ns => [dr p ns, .val (famD C n L), .val (iD n), .val (iD x), .own q1 ((List.range n).map iD), .val dB, .val (.lst Wr), .no, .no, S9, S10]) 0 p := ⟨fun _ => rfl, fun _ _ => rfl⟩
    exact sd_retD (S := fun ns => [dr p ns, .val (famD C n L), .val (iD n), .val (iD x), .own q1 ((List.range n).map iD), .val dB, .val (.lst Wr), .no, .no, S9, S10]) (d := .bl true) hdE (ec_im ep_bl rfl) o rfl
  refine sd_seq (sd_if (et_test (ep_op (ep_var (i := 2) (d := iD n) rfl) (ep_int (i := 1)) (r2_cmp (g := fun i j => decide (j < i))))) (fun h => ?_) (fun _ => sd_go (fin (fun _ _ z => by cases z) (fun _ _ z => by cases z))))
  have n2 : 2 ≤ n := by have := of_decide_eq_true h; omega
  let Tw : List Nat := List.range (n - 1) ++ [0]
  let Bb : List Nat := [0, 0] ++ ((List.range n).drop 2).take (n - 1 - 2)
  have sub1 : ∀ {Z : Hp → Prop} {E : List Slot}, E[2]? = some (.val (iD n)) → EP K [p] H Z (tOp (rI0 fun i j => .int (i - j)) (tVar 2) (tC (.int 1))) E (iD (n - 1)) := fun {Z E} h => ep_is (ep_op (ep_var h) (ep_int (i := 1)) r2_int) (by unfold iD; congr 1; omega)
  refine sd_seq (sd_asgL (l := Tw.map iD) (ef_is (ef_cat (el_new (ef_slAB (a := 0) (b := n - 1) (good rfl) ep_n0 (sub1 rfl) (by omega) (by omega))) (el_new (ef_lst (ea_cons (ep_op (good rfl) (ep_int (i := 0)) (r2_ixL (d := iD 0) (atI_nat (i := 0) (by rw [List.getElem?_map, List.getElem?_range (by omega)]; rfl)))) ea_nil))) (by simp <;> omega)) ?_) (imAll_nD _) (sd_go ?_))
  · simp only [Tw, List.drop_zero, Nat.sub_zero]
    rw [← List.map_take, List.take_range, Nat.min_eq_left (by omega), List.map_append]
    rfl
  refine sd_seq (sd_asgL (l := Bb.map iD ++ [iD n]) (ef_is (ef_cat (el_new (ef_cat (el_new (ef_lst (ea_cons (ep_int (i := 0)) (ea_cons (ep_int (i := 0)) ea_nil)))) (el_new (ef_slAB (a := 2) (b := n - 1) (good rfl) (ep_nat (n := 2)) (sub1 rfl) (by omega) (by omega))) (by simp <;> omega))) (el_new (ef_lst (ea_cons (ep_var (i := 2) (d := iD n) rfl) ea_nil))) (by simp <;> omega)) ?_) (imAll_append (imAll_nD _) rfl) (sd_go ?_))
  · simp only [Bb]
    rw [← List.map_drop, ← List.map_take, List.map_append]
    rfl
  have tN : KM.Nms n n Tw := ⟨by simp [Tw]; omega, fun y hy => by
    rcases List.mem_append.mp hy with h | h
    · have := List.mem_range.mp h; omega
    · simp at h; omega⟩
  have eI : ∀ {Z : Hp → Prop} {E : List Slot}, E[2]? = some (.val (iD n)) → EP K [p] H Z (tOp (rI0 fun i j => .int (i - j)) (tVar 2) (tC (.int 1))) E (.int ((n - 1 : Nat) : Int)) := fun {Z E} h => sub1 h
  refine sd_seq (sd_if (ne (nw (way := 1) (d := wI "names" ((n - 1 : Nat) : Int)) rfl (ep_var (i := 9) (d := .lst (Tw.map iD)) rfl) (ep_int (i := 0)) ep_n1 (.names1 ⟨rfl, n, L, _, _, by omega, rfl, rfl, .inr ⟨List.range (n - 1), 0, [], tN, List.nodup_range, List.mem_range.mpr (by omega), .inr rfl, by rw [List.length_range]⟩⟩)) (eI rfl)) (fun h => by cases h) (fun _ => sd_go ?_))
  refine sd_seq (sd_if (et_and (et_test (ep_op (ep_var (i := 2) (d := iD n) rfl) (ep_int (i := 2)) (r2_cmp (g := fun i j => decide (j < i))))) fun h3 => ne (nw (way := 1) (d := wI "names" ((n - 1 : Nat) : Int)) rfl (ep_var (i := 10) (d := .lst (Bb.map iD ++ [iD n])) rfl) (ep_int (i := 0)) ep_n1 (.names1 ⟨rfl, n, L, _, _, by omega, rfl, rfl, .inl ?_⟩)) (eI rfl)) (fun h => by simp at h) (fun _ => sd_go ?_))
  · have n3 : 3 ≤ n := by have := of_decide_eq_true h3; omega
    have hb : Bb.length = n - 1 := by simp [Bb]; omega
    have z := BadN.at_ (n := n) (w := n) (s := .lst (Bb.map iD ++ [iD n])) (e := iD n) (f := Bb) (r := []) (.inr rfl) (by rw [hb]; simp; omega) (fun y hy => by
      rcases List.mem_append.mp hy with h | h
      · simp at h; omega
      · have := List.mem_range.mp (List.mem_of_mem_drop (List.mem_of_mem_take h)); exact this) rfl (by rw [isTh_nat]; simp)
    rwa [hb] at z
  have nGood : (D.str "good").so = true := by decide +kernel
  refine sd_if (et_test (ep_op (nw (way := 0) (d := wI "good" 0) rfl (ep_var (i := 9) (d := .lst (Tw.map iD)) rfl) (ep_var (i := 2) (d := iD n) rfl) ep_n0 (.good ⟨n, n, L, Tw, _, hi, tN, n1, by omega, .inr rfl, rfl, rfl⟩)) (ep_tup (ea_cons ep_str (ea_cons (ep_int (i := 0)) ea_nil))) (r2_neD (b := false) (wI_cmp _ _ nGood) (wI_cmp _ _ nGood) ⟨fun h => by (cases h), fun h => absurd rfl h⟩))) (fun h => by cases h) (fun _ => sd_go (fin (fun _ _ z => by cases z) (fun _ _ z => by cases z)))
end
end Y
set_option Elab.async false
set_option linter.all false
set_option autoImplicit false
set_option maxRecDepth 100000
set_option maxHeartbeats 4000000
namespace Y
open PySem L2
section
variable {K : PySem.W.Frag} {B : List Addr} {H0 : Hp} {Z : Hp → Prop} {E : List Slot} {S : List Int → List Slot} {i : Nat} {p : Addr} {te tb tx : TE} {t : TT} {l : List D} {De : Ends} {ea : TA}
theorem pe_index {X : Cx} {K : PySem.W.Frag} {o e : Expr} {es : List Expr} {to : TE} {t : TA} {apos cpos : Pos} (hK : X.K = K) (ho : PE X o to) (ha : PA X (e :: es) t)
    (hbase : attributeBase o "index" X.env (eval o X.env) = eval o X.env := by rfl)
    (hfew : ((backTo cpos (starEach (e :: es) X.env)).all (fun x => !x.1) && (backToKw cpos (keywordEach [] X.env)).all (fun x => x.1.isSome) && decide ((e :: es).length + ([] : List Keyword).length + (if ([] : List Keyword).isEmpty then 0 else 1) < 30)) = true := by rfl)
    (hline : (apos.endLine == cpos.line) = true := by rfl) (hs : starEach (e :: es) X.env = (false, eval e X.env) :: starEach es X.env := by rfl) (hplain : (backTo cpos (starEach es X.env)).any (·.1) = false := by rfl) :
    PE X (.Call (.Attribute o "index" apos) (e :: es) [] cpos) (tBM K "list" (rIndex K) to t) := by
  subst hK
  exact pe_bm PySem.F.plainAttrs_list PySem.F.slot_list_index PySem.F.type_list_index mt_index ho ha hbase hfew hline hs hplain
theorem ep_index {ns : List Nat} {t j : Nat} (ho : EP K B H0 Z te E (nD ns)) (hx : EP K B H0 Z tx E (iD t)) (hj : ns[j]? = some t) (hu : ∀ m, m < j → ns[m]? ≠ some t) : EP K B H0 Z (tBM K "list" (rIndex K) te (tCons tx tNil)) E (iD j) := fun σ H e Q q =>
  ho σ H e _ fun v H1 e1 h1 => by
    obtain ⟨a, xs, rfl, hq, ha⟩ := h1.lst_inv
    refine ⟨.inl ⟨rfl, xs, hq⟩, hx σ H1 (e.ext e1) _ fun u H2 e2 h2 => ?_⟩
    cases h2
    have hxs := ints_vN ha
    subst hxs
    refine ⟨a, _, .int t, j, .int t, rfl, rfl, sqL_ex e2 hq, rfl, List.all_eq_true.mpr fun v hv => by obtain ⟨n, _, rfl⟩ := List.mem_map.mp hv; rfl, by rw [List.getElem?_map, hj]; rfl, by simp [eqV], fun m z hm hz => ?_, q _ H2 (e1.trans e2) (.int _)⟩
    rw [List.getElem?_map] at hz
    cases e3 : ns[m]? with
    | none => rw [e3] at hz; cases hz
    | some y =>
      rw [e3] at hz
      have : z = vN y := by simpa using hz.symm
      subst this
      have hne : y ≠ t := fun w => hu m hm (by rw [e3, w])
      show ((y : Int) == (t : Int)) = false
      rw [beq_eq_false_iff_ne]
      omega
theorem atI_nat' {α : Type} {l : List α} {i : Nat} {d : α} (h : l[i]? = some d) : atI l (i : Int) = some d := by
  have hi := (List.getElem?_eq_some_iff.mp h).1
  unfold atI ixN
  rw [if_pos (by omega), if_pos (by omega)]
  have : ((i : Int)).toNat = i := by omega
  rw [this]
  exact h
/-- [pick(draws, b) for _ in range(n)] -/
theorem en_lcE {j jw : Nat} {n : Int} {b : Nat} (hd : DS S i p) (hij : i ≠ j) (hjw : jw ≠ j) (hb : 1 ≤ b) (hS : ∀ ns, (S ns)[jw]? = some (.val (iD b))) (h : ∀ ns, EA K B H0 Z ea (S ns) [.int n]) (hn : 0 ≤ n ∧ n < 1000) :
    EN K B H0 Z (tLc (iRng1 ea) (gName j) tYes (tCall (PickP K) [] E0 (tCons (tVar i) (tCons (tVar jw) tNil))) [j]) S p (fun d => ∃ xs : List Nat, (xs.length : Int) = n ∧ (∀ x ∈ xs, x < b) ∧ d = nD xs) := fun ns σ H e Q q =>
  h ns σ H e _ fun vs H1 e1 h1 => by
    have e' := e.ext e1
    obtain ⟨sp, hp⟩ := e'.dat hd
    obtain ⟨vb, sb, hvb⟩ := e'.val jw _ (hS ns)
    cases hvb
    have : vs = [.int n] := by
      cases h1 with
      | cons a t => cases a; cases t; rfl
    subst this
    refine ⟨n, rfl, by omega, by omega, fun a na => ?_⟩
    have ap : a ≠ p := fun z => by rw [z, hp] at na; cases na
    refine lc_range (lo := 0) (n := n.toNat) (fun k H' => ∃ (ns' : List Int) (xs : List Nat), H' a = some (.lst (xs.map vN)) ∧ (∀ x ∈ xs, x < b) ∧ xs.length = k ∧ H' p = some (iv ns') ∧ ∀ b o, b ≠ p → b ≠ a → H1 b = some o → H' b = some o) ?_ ?_ ?_
    · exact ⟨ns, [], upd_same, by simp, rfl, by rw [upd_ne (Ne.symm ap)]; exact hp, fun b o _ hb z => by rw [upd_ne hb]; exact z⟩
    · rintro k H2 hk ⟨ns', xs, c1, c3, c4, c5, c6⟩
      refine ⟨wipe1 σ j _, ?_⟩
      have keep : ∀ {m : Nat} {v : V}, m ≠ j → σ[m]? = some (some v) → ((wipe σ [j]).set j (some (.int ((0 : Int) + (k : Int)))))[m]? = some (some v) := fun {m v} hm hv => by
        show ((σ.set j none).set j _)[m]? = _
        rw [List.getElem?_set_ne (Ne.symm hm), List.getElem?_set_ne (Ne.symm hm)]
        exact hv
      show (tCall (PickP K) [] E0 (tCons (tVar i) (tCons (tVar jw) tNil))) _ H2 _
      refine ⟨.ref p, keep hij sp, .int b, keep hjw sb, p, [.int b], [iD b], ns', rfl, c5, .one (.int _), ⟨b, hb, rfl⟩, fun v H3 d ns3 dw hp3 hv hpre => ?_⟩
      obtain ⟨b', x, hx, e3, rfl⟩ := hpre
      have hbb : b' = b := by
        have h2 : D.int (b : Int) = D.int (b' : Int) := (List.cons.inj e3).1
        injection h2 with h2
        omega
      subst hbb
      cases hv
      have c1' := dw a _ ap c1
      refine ⟨_, c1', by rw [List.length_map, sizeLine_eq]; omega, ns3, xs ++ [x], by rw [upd_same, List.map_append]; rfl, fun y hy => ?_, by simp [c4], by rw [upd_ne (Ne.symm ap)]; exact hp3, fun b o hb ha z => by rw [upd_ne ha]; exact dw _ _ hb (c6 b o hb ha z)⟩
      rcases List.mem_append.mp hy with hy | hy
      · exact c3 y hy
      · simp at hy; rw [hy]; exact hx
    · rintro H2 ⟨ns', xs, c1, c3, c4, c5, c6⟩
      have dw : Drw H1 H2 p := fun b o hb z => c6 b o hb (fun w => by rw [w, na] at z; cases z) z
      refine q _ _ ns' H2 ⟨xs, by omega, c3, rfl⟩ (e'.drawn hd dw c5) (e1.drw.trans dw) (.lst (SqL.of ?_) (isAll_iD xs))
      rw [hid_at (new_no e' na)]
      exact c1
/-- [..][drawn], any items -/
theorem en_ixL {P : D → Prop} (hd : DS S i p) (ha : ∀ ns, EC K B H0 Z te (S ns) (.lst l)) (hb : EN K B H0 Z tb S p (fun d => ∃ x, x < l.length ∧ d = iD x)) (hP : ∀ d ∈ l, P d) : EN K B H0 Z (tOp (rIxL K) te tb) S p P := fun ns σ H e Q q =>
  ha ns σ H e _ fun v H1 e1 h1 => hb ns σ H1 (e.ext e1) _ fun u d ns2 H2 p2 e2 w2 h2 => by
    obtain ⟨x, hx, rfl⟩ := p2
    cases h2
    have h1' := drw_is hd w2 h1
    obtain ⟨a, xs, rfl, hq, hxs⟩ := h1'.lst_inv
    have hl := hxs.length
    obtain ⟨v, hv, hi⟩ := hxs.getD (List.getElem?_eq_getElem hx)
    refine ⟨a, xs, (x : Int), v, rfl, rfl, sqL_ex (hid_le _ _) hq, atI_nat' hv, q v _ ns2 H2 (hP _ (List.getElem_mem hx)) e2 (e1.drw.trans w2) hi⟩
theorem ent_notB (h : EN K B H0 Z te S p (fun d => d = .bl true)) : ENT K B H0 Z (tNot (tB te)) S p (fun b => b = false) := fun ns σ H e Q q =>
  h ns σ H e _ fun v d ns' H' p1 e1 w1 h1 => by
    subst p1
    cases h1
    exact ⟨true, rfl, q false ns' H' rfl e1 w1⟩
theorem sd_ifNJ {α : Type} {G : α → Prop} {F : α → List Int → List Slot} {tx ty : TS} {P : Bool → Prop} (h : ENT K B H0 Z t S p P) (h1 : P true → (∀ a, G a → ∀ ns, SD K B H0 Z tNext De (F a ns)) → ∀ ns, SD K B H0 Z tx De (S ns)) (h2 : P false → (∀ a, G a → ∀ ns, SD K B H0 Z tNext De (F a ns)) → ∀ ns, SD K B H0 Z ty De (S ns))
    (k : ∀ a, G a → ∀ ns, SD K B H0 Z tNext De (F a ns)) : ∀ ns, SD K B H0 Z (tIfS t tx ty) De (S ns) := sd_ifN h (fun e => h1 e k) (fun e => h2 e k)
end
/-! the way back of an order -/
noncomputable def bk (ord : List Nat) (t : Nat) : Nat := open Classical in if h : ∃ j : Nat, ord[j]? = some t then Classical.choose h else 0
theorem bk_at {ord : List Nat} {t : Nat} (h : t ∈ ord) : ord[bk ord t]? = some t := by
  have z : ∃ j : Nat, ord[j]? = some t := by
    obtain ⟨j, hj, e⟩ := List.mem_iff_getElem.mp h
    exact ⟨j, by rw [List.getElem?_eq_getElem hj, e]⟩
  unfold bk
  rw [dif_pos z]
  exact Classical.choose_spec z
theorem ndx_at {l : List Nat} (nd : l.Nodup) {a b x : Nat} (ha : l[a]? = some x) (hb : l[b]? = some x) : a = b := by
  obtain ⟨ha1, ha2⟩ := List.getElem?_eq_some_iff.mp ha
  obtain ⟨hb1, hb2⟩ := List.getElem?_eq_some_iff.mp hb
  rcases Nat.lt_trichotomy a b with h | h | h
  · exact absurd (ha2.trans hb2.symm) ((List.pairwise_iff_getElem.mp nd) a b ha1 hb1 h)
  · exact h
  · exact absurd (hb2.trans ha2.symm) ((List.pairwise_iff_getElem.mp nd) b a hb1 ha1 h)
structure Ord (n : Nat) (ord : List Nat) : Prop where
  nms : KM.Nms n n ord
  nd : ord.Nodup
  mem : ∀ t, t < n → t ∈ ord
theorem ord_of {n : Nat} {ord : List Nat} (h : ord.Perm (List.range n)) : Ord n ord := ⟨⟨by rw [h.length_eq, List.length_range], fun x hx => List.mem_range.mp (h.mem_iff.mp hx)⟩, h.nodup_iff.mpr List.nodup_range, fun t ht => h.mem_iff.mpr (List.mem_range.mpr ht)⟩
noncomputable def backL (n : Nat) (ord : List Nat) : List Nat := (List.range n).map (bk ord)
theorem back_ord {n : Nat} {ord : List Nat} (h : Ord n ord) : KM.Nms n n (backL n ord) ∧ (backL n ord).Nodup ∧ ∀ t, t < n → (backL n ord).getD (ord.getD t 0) 0 = t := by
  have lt : ∀ t, t < n → bk ord t < n := fun t ht => by
    have := (List.getElem?_eq_some_iff.mp (bk_at (h.mem t ht))).1
    rwa [h.nms.len] at this
  refine ⟨⟨by unfold backL; simp, fun x hx => ?_⟩, ?_, fun t ht => ?_⟩
  · obtain ⟨t, ht, rfl⟩ := List.mem_map.mp hx
    exact lt t (List.mem_range.mp ht)
  · refine List.pairwise_map.mpr (List.Pairwise.imp_of_mem (fun {a b} ha hb hne e => ?_) List.nodup_range)
    have h1 := bk_at (h.mem a (List.mem_range.mp ha))
    have h2 := bk_at (h.mem b (List.mem_range.mp hb))
    rw [e] at h1
    exact hne (Option.some.inj (h1.symm.trans h2))
  · have hl : t < ord.length := by rw [h.nms.len]; exact ht
    have e : ord.getD t 0 = ord[t] := by simp [List.getD, List.getElem?_eq_getElem hl]
    have hx : ord[t] < n := h.nms.lt _ (List.getElem_mem hl)
    rw [e]
    unfold backL
    have e2 : ((List.range n).map (bk ord)).getD ord[t] 0 = bk ord ord[t] := by simp [List.getD, hx]
    rw [e2]
    exact ndx_at h.nd (bk_at (h.mem _ hx)) (List.getElem?_eq_getElem hl)
section
variable {P : Program} {w : World} {K : PySem.W.Frag} {mg : Str → Option Value} {base : Heap}
/-! law -/
abbrev s_law : Stmt := topS 77
abbrev N_law : List Str := ["_law_script", "_law_draws_here", "_law_built", "_law_size", "_law_lots", "_law_fam", "_law_wide", "_law_names", "_law_thing", "_law_order_here", "_law_handed", "_law_told", "_law_back", "_law_bad", "_law_due", "_law_way"]
theorem sc_law : FnScope N_law ["_law_script"] (defScope s_law) := ⟨rfl, rfl, rfl, by decide +kernel, rfl, by decide +kernel, by decide +kernel⟩
def p_law (ds : List D) (d : D) : Prop := ∃ ns : List Int, ns.length ≤ 63 ∧ ds = [.lst (ns.map D.int)] ∧ d = .bl true
def dueD : List D := [wI "family" 1, wI "family" 0, wS "number" "families", wS "number" "families", wS "number" "things", wS "number" "things"]
theorem ok_law {f C CN CM : Addr} {fd : FuncData} (F : Fun K "law" "law" s_law f fd) (T : Txt mg) (fc : FamC K mg C) (c_law_draws : Cl P w K mg base 1 "_law_draws" (FreshN K ok_draws p_draws)) (c_law_any : Cl P w K mg base 5 "_law_any" (DrawP K ok_0 p_any)) (c_Family : ClI P w K mg base 5 C "Family" (InitP K C p_init)) (c_law_pick : Cl P w K mg base 1 "_law_pick" (PickP K))
    (c_law_right_merged : Cl P w K mg base 8 "_law_right_merged" (Pure K (p_rmerged C))) (c_law_wrong_names : Cl P w K mg base 9 "_law_wrong_names" (DrawP K (ok_wn C) p_true)) (c_law_order : Cl P w K mg base 2 "_law_order" (DrawP K ok_ord p_order)) (c_renamed : Cl P w K mg base 7 "renamed" (PureE K (p_renamed C) (q_renamed C CM))) (c_law_name_sets : Cl P w K mg base 3 "_law_name_sets" (Fresh K p_name_sets))
    (c_merged : Cl P w K mg base 7 "merged" (PureE K (p_merged C) (q_merged C CN CM))) (c_eq : ClO P w K mg base 1 C "__eq__" (Pure K (p_eq C))) (hnf : PySem.W.notFirst K C (.ref C) = true) (c_law_right_together : Cl P w K mg base 9 "_law_right_together" (DrawP K ok_0 p_true)) (c_law_together_word : Cl P w K mg base 9 "_law_together_word" (Pure K (p_tword C))) :
    FnOk P w K mg base CX0 10 f fd ["_law_script"] (Pure K p_law) := by
  refine pure_ok F sc_law (fun ds d h => by obtain ⟨_, _, rfl, _⟩ := h; rfl) (by decide) fun cdv A outer s H E hr => ?_
  have hu := hr.units
  refine ⟨_, (pss_cons (ps_set (i := 1) sc_law.nd rfl (Or.inr rfl) (pe_cl c_law_draws hr (by decide) (by rfl) (pa_cons (pv 0) pa_nil)))
    (pss_cons (ps_set (i := 2) sc_law.nd rfl (Or.inl rfl) (pe_cl c_law_any hr (by decide) (by rfl) (pa_cons (pv 1) pa_nil)))
    (pss_cons (ps_set (i := 3) sc_law.nd rfl (Or.inl rfl) (pe_ix (r := rIxL K) ix_list (pv 2) pe_int (fun _ _ => rfl)))
    (pss_cons (ps_set (i := 4) sc_law.nd rfl (Or.inl rfl) (pe_ix (r := rIxL K) ix_list (pv 2) pe_int (fun _ _ => rfl)))
    (pss_cons (ps_set (i := 5) sc_law.nd rfl (Or.inr rfl) (pe_clI c_Family hr (by decide) (by rfl) (pa_cons (pv 3) (pa_cons (pv 4) pa_nil))))
    (pss_cons (ps_set (i := 6) sc_law.nd rfl (Or.inr rfl) (pe_op op_add pe_int (pe_cl c_law_pick hr (by decide) (by rfl) (pa_cons (pv 1) (pa_cons pe_int pa_nil)))))
    (pss_cons (ps_if (pt_cmpR op_eq (pe_cl c_law_pick hr (by decide) (by rfl) (pa_cons (pv 1) (pa_cons pe_int pa_nil))) pe_int (nomark _)) (pss_one (ps_set (i := 6) sc_law.nd rfl (Or.inr rfl) (pv 3))) pss_nil)
    (pss_cons (ps_setLc (i := 7) (own := [("_law_thing", 8)]) (g := gName 8) rfl sc_law.nd rfl rfl (sw_true rfl rfl rfl (by decide +kernel)) (pi_range1 (by rfl) T.range (pa_cons (pv 3) pa_nil)) (blkOk_by (N := N_law) (sc := defScope s_law) (by decide +kernel)) (fun _ _ _ _ _ => pg_name (i := 8) sc_law.nd rfl (Or.inl rfl)) (fun _ _ _ _ _ => pts_nil) (fun _ _ _ _ _ => (pe_cl c_law_pick hr (by decide) (by rfl) (pa_cons (pv 1) (pa_cons (pv 6) pa_nil)))))
    (pss_cons (ps_if (pw_or (pt_not (pt_val (pe_cl c_law_right_merged hr (by decide) (by rfl) (pa_cons (pv 5) (pa_cons (pv 3) (pa_cons (pv 4) (pa_cons (pv 7) (pa_cons (pv 6) pa_nil)))))))) (pw_or1 (pt_not (pt_val (pe_cl c_law_wrong_names hr (by decide) (by rfl) (pa_cons (pv 1) (pa_cons (pv 5) (pa_cons (pv 3) pa_nil)))))))).pt (pss_one (ps_ret pe_bl)) pss_nil)
    (pss_cons (ps_set (i := 9) sc_law.nd rfl (Or.inr rfl) (pe_cl c_law_order hr (by decide) (by rfl) (pa_cons (pv 1) (pa_cons (pv 3) pa_nil))))
    (pss_cons (ps_set (i := 10) sc_law.nd rfl (Or.inl rfl) (pe_callTy (r := rLstOf K) call_lstY (by rfl) T.list (by decide +kernel) (pa_cons (pv 9) pa_nil)))
    (pss_cons (ps_set (i := 11) sc_law.nd rfl (Or.inl rfl) (pe_cl c_renamed hr (by decide) (by rfl) (pa_cons (pv 5) (pa_cons (pv 10) pa_nil))))
    (pss_cons (ps_if (pw_or (pt_cmpR (r := rNeD K) (op_neD hu) (pe_fld (pv 11) rfl) (pe_callTy (r := rTupOf K) call_tupY (by rfl) T.tuple (by decide +kernel) (pa_cons (pe_cl c_law_name_sets hr (by decide) (by rfl) (pa_cons (pv 4) (pa_cons (pv 9) pa_nil))) pa_nil)) (nomark _)) (pw_or (pt_cmpR (r := rNeD K) (op_neD hu) (pv 10) (pv 9) (nomark _)) (pw_or1 (pt_cmpR op_ne (pe_fld (pv 11) rfl) (pv 3) (nomark _))))).pt (pss_one (ps_ret pe_bl)) pss_nil)
    (pss_cons (ps_if (pw_or (pt_not (pt_cmpR (r := rEqO K C (Pure K (p_eq C))) (op_clO c_eq hnf hr (by decide)) (pe_cl c_merged hr (by decide) (by rfl) (pa_cons (pv 5) (pa_cons (pv 9) (pa_cons (pv 3) pa_nil)))) (pv 11) (nomark _))) (pw_or1 (pt_cmpR (r := rNeD K) (op_neD hu) (pe_fld (pe_cl c_merged hr (by decide) (by rfl) (pa_cons (pv 5) (pa_cons (pv 9) (pa_cons (pe_op op_add (pv 3) pe_int) pa_nil)))) rfl) (pe_fld (pv 11) rfl) (nomark _)))).pt (pss_one (ps_ret pe_bl)) pss_nil)
    (pss_cons (ps_setLc (i := 12) (own := [("_law_thing", 8)]) (g := gName 8) rfl sc_law.nd rfl rfl (sw_true rfl rfl rfl (by decide +kernel)) (pi_range1 (by rfl) T.range (pa_cons (pv 3) pa_nil)) (blkOk_by (N := N_law) (sc := defScope s_law) (by decide +kernel)) (fun _ _ _ _ _ => pg_name (i := 8) sc_law.nd rfl (Or.inl rfl)) (fun _ _ _ _ _ => pts_nil) (fun _ _ _ _ _ => (pe_index (K := K) rfl (pv 9) (pa_cons (pv 8) pa_nil))))
    (pss_cons (ps_if (pw_or (pt_not (pt_cmpR (r := rEqO K C (Pure K (p_eq C))) (op_clO c_eq hnf hr (by decide)) (pe_cl c_renamed hr (by decide) (by rfl) (pa_cons (pv 11) (pa_cons (pe_callTy (r := rTupOf K) call_tupY (by rfl) T.tuple (by decide +kernel) (pa_cons (pv 12) pa_nil)) pa_nil))) (pv 5) (nomark _))) (pw_or1 (pt_not (pt_val (pe_cl c_law_right_together hr (by decide) (by rfl) (pa_cons (pv 1) pa_nil)))))).pt (pss_one (ps_ret pe_bl)) pss_nil)
    (pss_cons (ps_set (i := 13) sc_law.nd rfl (Or.inr rfl) (pe_ix (r := rIxL K) ix_list (pe_lst (pa_cons pe_non (pa_cons pe_int (pa_cons pe_str (pa_cons (pe_tup (pa_cons (pe_tup (pa_cons pe_int pa_nil)) pa_nil)) (pa_cons (pe_lst (pa_cons (pv 5) pa_nil)) pa_nil)))))) (pe_cl c_law_pick hr (by decide) (by rfl) (pa_cons (pv 1) (pa_cons pe_int pa_nil))) (fun _ _ => rfl)))
    (pss_cons (ps_set (i := 14) sc_law.nd rfl (Or.inl rfl) (pe_op op_cat (pe_op op_cat (pe_lst (pa_cons (pe_tup (pa_cons pe_str (pa_cons pe_int pa_nil))) (pa_cons (pe_tup (pa_cons pe_str (pa_cons pe_int pa_nil))) pa_nil))) (pe_op op_rep (pe_lst (pa_cons (pe_tup (pa_cons pe_str (pa_cons pe_str pa_nil))) pa_nil)) pe_int)) (pe_op op_rep (pe_lst (pa_cons (pe_tup (pa_cons pe_str (pa_cons pe_str pa_nil))) pa_nil)) pe_int)))
    (pss_one (ps_ret (pe_and (pe_cmpR (r := rEqD K) (op_eqD hu) (pe_lc (own := [("_law_way", 15)]) (g := gName 15) rfl sc_law.nd (pi_range1 (by rfl) T.range (pa_cons pe_int pa_nil)) (blkOk_by (N := N_law) (sc := defScope s_law) (by decide +kernel)) (fun _ _ _ _ _ => pg_name (i := 15) sc_law.nd rfl (Or.inl rfl)) (fun _ _ _ _ _ => pts_nil) (fun _ _ _ _ _ => (pe_cl c_law_together_word hr (by decide) (by rfl) (pa_cons (pv 5) (pa_cons (pv 13) (pa_cons (pv 15) pa_nil)))))) (pv 14) (nomark _)) (pe_one (pe_cmpR (r := rEqD K) (op_eqD hu) (pe_fld (pv 5) rfl) (pe_callTy (r := rTupOf K) call_tupY (by rfl) T.tuple (by decide +kernel) (pa_cons (pv 4) pa_nil)) (nomark _)))))))))))))))))))))))), ?_⟩
  rintro ds d ⟨ns0, hz, rfl, rfl⟩ De o
  refine sd_seq (sd_asgON (ea_cons (ep_var rfl) ea_nil) ⟨ns0, hz, rfl⟩ (fun m hm => by obtain ⟨ns, rfl⟩ := hm; exact imAll_ints ns) (fun p m hm => sd_go ?_))
  obtain ⟨ns, rfl⟩ := hm
  let s0 : Slot := .val (.lst (ns0.map D.int))
  have hd1 : DS (fun ns => [s0, dr p ns, .no, .no, .no, .no, .no, .no, .no, .no, .no, .no, .no, .no, .no, .no]) 1 p := ⟨fun _ => rfl, fun _ _ => rfl⟩
  refine sd_seq (sd_asgN (S := fun ns => [s0, dr p ns, .no, .no, .no, .no, .no, .no, .no, .no, .no, .no, .no, .no, .no, .no]) hd1 (en_draw (ok := ok_0) (P := p_any []) hd1 (fun _ => eac_nil) (show ok_0 [] from rfl) (fun d h => h) (.inr fun _ => rfl)) (fun d ns hdp => sd_go ?_) ns)
  obtain ⟨n, L, g, hn, rfl⟩ := hdp
  have n1 := g.n1
  have hi := gf_in g (show n ≤ 9 by omega)
  refine sd_seq (sd_asgC (d := iD n) (ec_ixL (l := [iD n, lsD L]) (ec_var rfl) rfl) (sd_go ?_))
  refine sd_seq (sd_asgC (d := lsD L) (ec_ixL (l := [iD n, lsD L]) (ec_var rfl) rfl) (sd_go ?_))
  refine sd_seq (sd_asg (d := famD C n L) (ep_is (ep_make (ea_cons (ep_var (i := 3) (d := iD n) rfl) (ea_cons (ep_var (i := 4) (d := lsD L) rfl) ea_nil)) ⟨n, L, lsD L, hi, .inr rfl, rfl, rfl, rfl⟩) (by rw [gf_least g]; rfl)) (famD_im C n L) (sd_go ?_))
  have hd2 : DS (fun ns => [s0, dr p ns, .val (famL n L), .val (iD n), .val (lsD L), .val (famD C n L), .no, .no, .no, .no, .no, .no, .no, .no, .no, .no]) 1 p := ⟨fun _ => rfl, fun _ _ => rfl⟩
  refine sd_seq (sd_asgN (S := fun ns => [s0, dr p ns, .val (famL n L), .val (iD n), .val (lsD L), .val (famD C n L), .no, .no, .no, .no, .no, .no, .no, .no, .no, .no]) (P := fun d => ∃ w : Nat, 1 ≤ w ∧ w ≤ 7 ∧ d = iD w) hd2
    (en_op (P1 := fun d => d = iD 1) (P2 := fun _ d => ∃ x, x < 6 ∧ d = iD x) hd2 (en_ec (d := iD 1) (fun _ => ec_int) hd2 rfl) (fun _ _ => en_pick (b := 6) hd2 (fun _ => ec_int) (by decide)) (fun x y hx hy => by
      obtain ⟨c, hc, rfl⟩ := hy
      subst hx
      exact ⟨_, r2_int (g := fun i j => i + j), rfl, 1 + c, by omega, by omega, by show D.int ((1 : Int) + (c : Int)) = D.int ((1 + c : Nat) : Int); congr 1⟩)) (fun d ns hdp => sd_go ?_) ns)
  obtain ⟨w0, w1, w2, rfl⟩ := hdp
  have hd3 : ∀ w' : Nat, DS (fun ns => [s0, dr p ns, .val (famL n L), .val (iD n), .val (lsD L), .val (famD C n L), .val (iD w'), .no, .no, .no, .no, .no, .no, .no, .no, .no]) 1 p := fun _ => ⟨fun _ => rfl, fun _ _ => rfl⟩
  refine sd_seq (sd_ifNJ (α := Nat) (G := fun w' => 1 ≤ w' ∧ w' ≤ 7) (F := fun w' ns => [s0, dr p ns, .val (famL n L), .val (iD n), .val (lsD L), .val (famD C n L), .val (iD w'), .no, .no, .no, .no, .no, .no, .no, .no, .no]) (S := fun ns => [s0, dr p ns, .val (famL n L), .val (iD n), .val (lsD L), .val (famD C n L), .val (iD w0), .no, .no, .no, .no, .no, .no, .no, .no, .no]) (ent_pick (b := 3) (hd3 w0) (by decide))
    (fun _ go ns => sd_asg (i := 6) (d := iD n) (ep_var (i := 3) rfl) rfl (go n ⟨n1, hn⟩ ns)) (fun _ go ns => go w0 ⟨w1, w2⟩ ns) (fun w' hw ns => sd_go ?_) ns)
  obtain ⟨v1, v2⟩ := hw
  refine sd_seq (sd_asgN (S := fun ns => [s0, dr p ns, .val (famL n L), .val (iD n), .val (lsD L), .val (famD C n L), .val (iD w'), .no, .no, .no, .no, .no, .no, .no, .no, .no]) (hd3 w') (en_lcE (j := 8) (jw := 6) (n := (n : Int)) (b := w') (hd3 w') (by decide) (by decide) v1 (fun _ => rfl) (fun _ => ea_cons (ep_var (i := 3) (d := iD n) rfl) ea_nil) (by omega)) (fun d ns hdp => sd_go ?_) ns)
  obtain ⟨names, hnl, hnw, rfl⟩ := hdp
  have hN : KM.Nms n w' names := ⟨by omega, hnw⟩
  have hd4 : DS (fun ns => [s0, dr p ns, .val (famL n L), .val (iD n), .val (lsD L), .val (famD C n L), .val (iD w'), .val (nD names), .no, .no, .no, .no, .no, .no, .no, .no]) 1 p := ⟨fun _ => rfl, fun _ _ => rfl⟩
  refine sd_seq (sd_ifN (S := fun ns => [s0, dr p ns, .val (famL n L), .val (iD n), .val (lsD L), .val (famD C n L), .val (iD w'), .val (nD names), .no, .no, .no, .no, .no, .no, .no, .no]) (P := fun b => b = false) (ent_or (P1 := fun b => b = false) (P2 := fun b => b = false) (ent_et (b := false) (fun _ => et_not (et_B (ep_call (d := .bl true) (ea_cons (ep_var (i := 5) (d := famD C n L) rfl) (ea_cons (ep_var (i := 3) (d := iD n) rfl) (ea_cons (ep_var (i := 4) (d := lsD L) rfl) (ea_cons (ep_var (i := 7) (d := nD names) rfl) (ea_cons (ep_var (i := 6) (d := iD w') rfl) ea_nil))))) ⟨n, w', L, names, g, hn, hN, v1, v2, rfl, rfl⟩))) rfl)
    (ent_notB (en_draw (ok := ok_wn C) (pre := p_true) hd4 (fun _ => eac_cons (ec_im (ep_var (i := 5) (d := famD C n L) rfl) (famD_im C n L)) (eac_cons (ec_im (ep_var (i := 3) (d := iD n) rfl) rfl) eac_nil)) ⟨n, L, g, hn, rfl⟩ (fun d h => h) (.inl fun d h => by cases h; rfl))) ⟨fun h => (by cases h), fun b _ h => h⟩) (fun h => by cases h) (fun _ ns => sd_go ?_) ns)
  refine sd_seq (sd_asgN (S := fun ns => [s0, dr p ns, .val (famL n L), .val (iD n), .val (lsD L), .val (famD C n L), .val (iD w'), .val (nD names), .no, .no, .no, .no, .no, .no, .no, .no]) (P := fun d => ∃ ord : List Nat, ord.Perm (List.range n) ∧ d = nD ord) hd4 (en_draw (ok := ok_ord) hd4 (fun _ => eac_cons (ec_im (ep_var (i := 3) (d := iD n) rfl) rfl) eac_nil) ⟨n, by omega, rfl⟩ (fun d h => h n rfl) (.inr fun _ => rfl)) (fun d ns hdp => sd_go ?_) ns)
  obtain ⟨ord, hperm, rfl⟩ := hdp
  have oo := ord_of hperm
  obtain ⟨bN, bD, bE⟩ := back_ord oo
  have g2 := KM.mg_gf oo.nms g n1
  have hi2 := gf_in g2 (show n ≤ 9 by omega)
  have oN1 : KM.Nms n (n + 1) ord := ⟨oo.nms.len, fun x hx => by have := oo.nms.lt x hx; omega⟩
  refine sd_seq (sd_asgL (l := ord.map iD) (ef_cb (ea_cons (ep_var (i := 9) (d := nD ord) rfl) ea_nil) (rf_list (.inr rfl))) (imAll_nD _) (sd_go ?_))
  refine sd_seq (sd_asg (d := famD C n (KM.mg ord L)) (ep_is (ep_callE (d := famD C n (KM.leastLots (L.map (KM.nm ord)))) (ea_cons (ep_var (i := 5) (d := famD C n L) rfl) (ea_cons (ep_var (i := 10) (d := nD ord) rfl) ea_nil)) ⟨n, L, ord, _, hi, oo.nms, oo.nd, .inr rfl, rfl, rfl⟩) (by rw [mg_eq oo.nms g])) (famD_im _ _ _) (sd_go ?_))
  refine sd_seq (sd_if (b := false || (false || (n != n))) (et_or (et_test (ep_op (ep_fld (ep_var (i := 11) (d := famD C n (KM.mg ord L)) rfl) fc.ob.cl fc.nl rfl) (ep_cb (ea_cons (EF.p (ef_call (m := (KM.mg ord L).map tD) (ea_cons (ep_var (i := 4) (d := lsD L) rfl) (ea_cons (ep_var (i := 9) (d := nD ord) rfl) ea_nil)) ⟨n, n, L, ord, hi, oo.nms, by omega, rfl, rfl⟩)) ea_nil) rc_tupleL) (r2_neD (b := false) (lsD_cmp _).2 (lsD_cmp _).2 ⟨fun h => by (cases h), fun h => absurd rfl h⟩)))
    fun _ => et_or (et_test (ep_op (ep_var (i := 10) (d := nD ord) rfl) (ep_var (i := 9) (d := nD ord) rfl) (r2_neD (b := false) (nD_cmp _) (nD_cmp _) ⟨fun h => by (cases h), fun h => absurd rfl h⟩))) fun _ => et_test (ep_op (ep_fld (ep_var (i := 11) (d := famD C n (KM.mg ord L)) rfl) fc.ob.cl fc.nt rfl) (ep_var (i := 3) (d := iD n) rfl) r2_neN)) (fun h => by simp at h) (fun _ => sd_go ?_))
  refine sd_seq (sd_if (et_or (et_not (et_test (ep_op (ep_is (d' := famD C n (KM.mg ord L)) (ep_callE (d := famD C n (KM.leastLots (L.map (KM.nm ord)))) (ea_cons (ep_var (i := 5) (d := famD C n L) rfl) (ea_cons (ep_var (i := 9) (d := nD ord) rfl) (ea_cons (ep_var (i := 3) (d := iD n) rfl) ea_nil))) ⟨n, n, L, ord, _, hi, oo.nms, n1, by omega, .inr rfl, rfl, rfl⟩) (by rw [mg_eq oo.nms g])) (ep_var (i := 11) (d := famD C n (KM.mg ord L)) rfl) (r2_eqO ⟨n, n, KM.mg ord L, KM.mg ord L, rfl, rfl⟩))))
    fun _ => et_test (ep_op (ep_fld (ep_is (d' := famD C (n + 1) (KM.mg ord L)) (ep_callE (d := famD C (n + 1) (KM.leastLots (L.map (KM.nm ord)))) (ea_cons (ep_var (i := 5) (d := famD C n L) rfl) (ea_cons (ep_var (i := 9) (d := nD ord) rfl) (ea_cons (ep_is (d' := iD (n + 1)) (ep_op (ep_var (i := 3) (d := iD n) rfl) ep_n1 r2_int) (by unfold iD; rw [Int.natCast_add])) ea_nil))) ⟨n, n + 1, L, ord, _, hi, oN1, by omega, by omega, .inr rfl, rfl, rfl⟩) (by rw [mg_eq oN1 g])) fc.ob.cl fc.nl rfl) (ep_fld (ep_var (i := 11) (d := famD C n (KM.mg ord L)) rfl) fc.ob.cl fc.nl rfl) (r2_neD (b := false) (lsD_cmp _).2 (lsD_cmp _).2 ⟨fun h => by (cases h), fun h => absurd rfl h⟩))) (fun h => by simp at h) (fun _ => sd_go ?_))
  refine sd_seq (sd_asgL (l := (backL n ord).map iD) (ef_is (ef_lcR1 (j := 8) (n := (n : Int)) (fun t => iD (bk ord t)) (ea_cons (ep_var (i := 3) (d := iD n) rfl) ea_nil) (by omega) (fun t ht => ep_index (ep_var (i := 9) (d := nD ord) rfl) (ep_var (i := 8) (d := iD t) rfl) (bk_at (oo.mem t (by omega))) (fun m hm e => by have := ndx_at oo.nd e (bk_at (oo.mem t (by omega))); omega)) (fun _ _ => rfl)) (by unfold backL; rw [List.map_map, show ((n : Int)).toNat = n by omega]; rfl)) (imAll_nD _) (sd_go ?_))
  have hd5 : DS (fun ns => [s0, dr p ns, .val (famL n L), .val (iD n), .val (lsD L), .val (famD C n L), .val (iD w'), .val (nD names), .no, .val (nD ord), .val (nD ord), .val (famD C n (KM.mg ord L)), .val (nD (backL n ord)), .no, .no, .no]) 1 p := ⟨fun _ => rfl, fun _ _ => rfl⟩
  have hback := KM.mg_back oo.nms bN g bE
  refine sd_seq (sd_ifN (S := fun ns => [s0, dr p ns, .val (famL n L), .val (iD n), .val (lsD L), .val (famD C n L), .val (iD w'), .val (nD names), .no, .val (nD ord), .val (nD ord), .val (famD C n (KM.mg ord L)), .val (nD (backL n ord)), .no, .no, .no]) (P := fun b => b = false) (ent_or (P1 := fun b => b = false) (P2 := fun b => b = false) (ent_et (b := false) (fun _ => et_is (et_not (et_test (ep_op (ep_is (d' := famD C n L) (ep_callE (d := famD C n (KM.leastLots ((KM.mg ord L).map (KM.nm (backL n ord))))) (ea_cons (ep_var (i := 11) (d := famD C n (KM.mg ord L)) rfl) (ea_cons (ep_cb (ea_cons (ep_var (i := 12) (d := nD (backL n ord)) rfl) ea_nil) rc_tupleL) ea_nil)) ⟨n, KM.mg ord L, backL n ord, _, hi2, bN, bD, .inl rfl, rfl, rfl⟩) (by rw [mg_eq bN g2, hback])) (ep_var (i := 5) (d := famD C n L) rfl) (r2_eqO ⟨n, n, L, L, rfl, rfl⟩)))) (by simp)) rfl)
    (ent_notB (en_draw (ok := ok_0) (pre := p_true) hd5 (fun _ => eac_nil) rfl (fun d h => h) (.inl fun d h => by cases h; rfl))) ⟨fun h => (by cases h), fun b _ h => h⟩) (fun h => by cases h) (fun _ ns => sd_go ?_) ns)
  refine sd_seq (sd_asgN (S := fun ns => [s0, dr p ns, .val (famL n L), .val (iD n), .val (lsD L), .val (famD C n L), .val (iD w'), .val (nD names), .no, .val (nD ord), .val (nD ord), .val (famD C n (KM.mg ord L)), .val (nD (backL n ord)), .no, .no, .no]) (P := fun d => ∃ ty, d.tyN = some ty) hd5
    (en_ixL (l := [.non, .int 0, .str "0", .tup [.tup [.int 0]], .lst [famD C n L]]) hd5 (fun _ => ec_lst (eac_cons (ec_im ep_non rfl) (eac_cons (ec_im ep_int rfl) (eac_cons (ec_im ep_str rfl) (eac_cons (ec_im (ep_tup (ea_cons (ep_tup (ea_cons ep_int ea_nil)) ea_nil)) rfl) (eac_cons (ec_new (ef_lst (ea_cons (ep_var (i := 5) (d := famD C n L) rfl) ea_nil)) (by show ((famD C n L).im && true) = true; rw [famD_im]; rfl)) eac_nil))))) (by show 5 ≤ 100000; decide))
      (en_pick (b := 5) hd5 (fun _ => ec_int) (by decide)) (fun d hdm => by
        simp only [List.mem_cons, List.not_mem_nil, or_false] at hdm
        rcases hdm with rfl | rfl | rfl | rfl | rfl <;> exact ⟨_, rfl⟩)) (fun dB ns hB => sd_go ?_) ns)
  obtain ⟨ty, hB⟩ := hB
  refine sd_seq (sd_asgL (l := dueD) (ef_cat (el_new (ef_cat (el_new (ef_lst (ea_cons (ep_tup (ea_cons ep_str (ea_cons ep_int ea_nil))) (ea_cons (ep_tup (ea_cons ep_str (ea_cons ep_int ea_nil))) ea_nil)))) (el_new (ef_rep (el_new (ef_lst (ea_cons (ep_tup (ea_cons ep_str (ea_cons ep_str ea_nil))) ea_nil))) ep_int ⟨by decide, by decide, by simp⟩)) (by decide))) (el_new (ef_rep (el_new (ef_lst (ea_cons (ep_tup (ea_cons ep_str (ea_cons ep_str ea_nil))) ea_nil))) ep_int ⟨by decide, by decide, by simp⟩)) (by decide)) rfl (sd_go ?_))
  have hcmp : Cmpb (.lst dueD) := (cmpb_list fun d hd => by
    simp only [dueD, List.mem_cons, List.not_mem_nil, or_false] at hd
    have sF : (D.str "family").so = true := by decide +kernel
    have sN : (D.str "number").so = true := by decide +kernel
    have sFs : (D.str "families").so = true := by decide +kernel
    have sT : (D.str "things").so = true := by decide +kernel
    have one : ∀ {a : D}, Cmpb a → a.dep ≤ 50 → a.pl = true ∧ a.so = true ∧ a.dep ≤ 50 := fun h hd => ⟨h.1, h.2, hd⟩
    rcases hd with rfl | rfl | rfl | rfl | rfl | rfl
    · exact one (wI_cmp _ _ sF) (by decide)
    · exact one (wI_cmp _ _ sF) (by decide)
    · exact one (wS_cmp _ _ sN sFs) (by decide)
    · exact one (wS_cmp _ _ sN sFs) (by decide)
    · exact one (wS_cmp _ _ sN sT) (by decide)
    · exact one (wS_cmp _ _ sN sT) (by decide)).1
  refine sd_ret (ep_is (ep_andV (b := true) (c := true) (ep_op (EF.p (ef_is (ef_lcR1 (j := 15) (n := 6) (fun i => twD i) (ea_cons (ep_int (i := 6)) ea_nil) (by decide) (fun i hi6 => ep_call (ea_cons (ep_var (i := 5) (d := famD C n L) rfl) (ea_cons (ep_var (i := 13) (d := dB) rfl) (ea_cons (ep_var (i := 15) (d := iD i) rfl) ea_nil))) ⟨n, L, dB, ty, i, hi, hB, by omega, rfl, rfl⟩) (fun i hi6 => by
    have h : i = 0 ∨ i = 1 ∨ i = 2 ∨ i = 3 ∨ i = 4 ∨ i = 5 := by omega
    rcases h with rfl | rfl | rfl | rfl | rfl | rfl <;> rfl)) (m := dueD) rfl)) (ep_var (i := 14) (d := .lst dueD) rfl) (r2_eqD (b := true) hcmp hcmp ⟨fun _ => rfl, fun _ => rfl⟩)) fun _ => ep_op (ep_fld (ep_var (i := 5) (d := famD C n L) rfl) fc.ob.cl fc.nl rfl) (ep_cb (ea_cons (ep_var (i := 4) (d := lsD L) rfl) ea_nil) rc_tupleL) (r2_eqD (b := true) (lsD_cmp _).2 (lsD_cmp _).2 ⟨fun _ => rfl, fun _ => rfl⟩)) rfl) o.rt
end
end Y
set_option Elab.async false
set_option linter.all false
set_option autoImplicit false
set_option maxRecDepth 100000
set_option maxHeartbeats 4000000
namespace Y
open PySem L2
theorem all_mk {P : Program} {w : World} {K : PySem.W.Frag} {h : Heap} {mg : Str → Option Value} {fa C CT CB fB CN fN CM fM CF fF f_mask_of f_things_of f_least_masks f_lots_of_masks f_least_lots f_blocker_lots f_law_inside f_law_common f_law_subsets f_law_least f_law_meets f_law_blocker f_law_sized f_law_fan f_law_ring f_is_integer f_ask_size f_is_thing f_set_of f_ask_things f_checked_lot f_Minit f_Meq f_Minvert f_Mholds f_law_pick f_law_chosen f_law_mixed_lots f_law_moved f_law_small f_law_middle f_law_any f_law_draws f_lots_put f_family_list f_families_for f_starts_of f_Mcall f_ask_names f_merged f_renamed f_ask_some f_beside f_both f_ask_between f_choices_of f_votes f_law_holds f_law_name_sets f_law_order f_law_right_merged f_law_names_word f_law_together f_law_together_word f_law_right_together f_law_wrong_names f_law : Addr} (X : K.In h) (G : h.Ns mainGlobals mg) (hfa : mg "law" = some (.ref fa)) {tM : Tok}
    {od_mask_of an_mask_of od_things_of an_things_of od_least_masks an_least_masks od_lots_of_masks an_lots_of_masks od_least_lots an_least_lots od_blocker_lots an_blocker_lots od_law_inside an_law_inside od_law_common an_law_common od_law_subsets an_law_subsets od_law_least an_law_least od_law_meets an_law_meets od_law_blocker an_law_blocker od_law_sized an_law_sized od_law_fan an_law_fan od_law_ring an_law_ring od_is_integer an_is_integer od_ask_size an_ask_size od_is_thing an_is_thing od_set_of an_set_of od_ask_things an_ask_things od_checked_lot an_checked_lot od_Minit an_Minit od_Meq an_Meq od_Minvert an_Minvert od_Mholds an_Mholds od_law_pick an_law_pick od_law_chosen an_law_chosen od_law_mixed_lots an_law_mixed_lots od_law_moved an_law_moved od_law_small an_law_small od_law_middle an_law_middle od_law_any an_law_any od_law_draws an_law_draws od_lots_put an_lots_put od_family_list an_family_list od_families_for an_families_for od_starts_of an_starts_of od_Mcall an_Mcall od_ask_names an_ask_names od_merged an_merged od_renamed an_renamed od_ask_some an_ask_some od_beside an_beside od_both an_both od_ask_between an_ask_between od_choices_of an_choices_of od_votes an_votes od_law_holds an_law_holds od_law_name_sets an_law_name_sets od_law_order an_law_order od_law_right_merged an_law_right_merged od_law_names_word an_law_names_word od_law_together an_law_together od_law_together_word an_law_together_word od_law_right_together an_law_right_together od_law_wrong_names an_law_wrong_names od_law an_law : Option Addr} {sl_mask_of sl_things_of sl_least_masks sl_lots_of_masks sl_least_lots sl_blocker_lots sl_law_inside sl_law_common sl_law_subsets sl_law_least sl_law_meets sl_law_blocker sl_law_sized sl_law_fan sl_law_ring sl_is_integer sl_ask_size sl_is_thing sl_set_of sl_ask_things sl_checked_lot sl_Minit sl_Meq sl_Minvert sl_Mholds sl_law_pick sl_law_chosen sl_law_mixed_lots sl_law_moved sl_law_small sl_law_middle sl_law_any sl_law_draws sl_lots_put sl_family_list sl_families_for sl_starts_of sl_Mcall sl_ask_names sl_merged sl_renamed sl_ask_some sl_beside sl_both sl_ask_between sl_choices_of sl_votes sl_law_holds sl_law_name_sets sl_law_order sl_law_right_merged sl_law_names_word sl_law_together sl_law_together_word sl_law_right_together sl_law_wrong_names sl_law : Array (Option Value)} {oc_mask_of kV_mask_of dc_mask_of pm_mask_of cd_mask_of ct_mask_of oc_things_of kV_things_of dc_things_of pm_things_of cd_things_of ct_things_of oc_least_masks kV_least_masks dc_least_masks pm_least_masks cd_least_masks ct_least_masks oc_lots_of_masks kV_lots_of_masks dc_lots_of_masks pm_lots_of_masks cd_lots_of_masks ct_lots_of_masks oc_least_lots kV_least_lots dc_least_lots pm_least_lots cd_least_lots ct_least_lots oc_blocker_lots kV_blocker_lots dc_blocker_lots pm_blocker_lots cd_blocker_lots ct_blocker_lots oc_law_inside kV_law_inside dc_law_inside pm_law_inside cd_law_inside ct_law_inside oc_law_common kV_law_common dc_law_common pm_law_common cd_law_common ct_law_common oc_law_subsets kV_law_subsets dc_law_subsets pm_law_subsets cd_law_subsets ct_law_subsets oc_law_least kV_law_least dc_law_least pm_law_least cd_law_least ct_law_least oc_law_meets kV_law_meets dc_law_meets pm_law_meets cd_law_meets ct_law_meets oc_law_blocker kV_law_blocker dc_law_blocker pm_law_blocker cd_law_blocker ct_law_blocker oc_law_sized kV_law_sized dc_law_sized pm_law_sized cd_law_sized ct_law_sized oc_law_fan kV_law_fan dc_law_fan pm_law_fan cd_law_fan ct_law_fan oc_law_ring kV_law_ring dc_law_ring pm_law_ring cd_law_ring ct_law_ring oc_is_integer kV_is_integer dc_is_integer pm_is_integer cd_is_integer ct_is_integer oc_ask_size kV_ask_size dc_ask_size pm_ask_size cd_ask_size ct_ask_size oc_is_thing kV_is_thing dc_is_thing pm_is_thing cd_is_thing ct_is_thing oc_set_of kV_set_of dc_set_of pm_set_of cd_set_of ct_set_of oc_ask_things kV_ask_things dc_ask_things pm_ask_things cd_ask_things ct_ask_things oc_checked_lot kV_checked_lot dc_checked_lot pm_checked_lot cd_checked_lot ct_checked_lot oc_Minit kV_Minit dc_Minit pm_Minit cd_Minit ct_Minit oc_Meq kV_Meq dc_Meq pm_Meq cd_Meq ct_Meq oc_Minvert kV_Minvert dc_Minvert pm_Minvert cd_Minvert ct_Minvert oc_Mholds kV_Mholds dc_Mholds pm_Mholds cd_Mholds ct_Mholds oc_law_pick kV_law_pick dc_law_pick pm_law_pick cd_law_pick ct_law_pick oc_law_chosen kV_law_chosen dc_law_chosen pm_law_chosen cd_law_chosen ct_law_chosen oc_law_mixed_lots kV_law_mixed_lots dc_law_mixed_lots pm_law_mixed_lots cd_law_mixed_lots ct_law_mixed_lots oc_law_moved kV_law_moved dc_law_moved pm_law_moved cd_law_moved ct_law_moved oc_law_small kV_law_small dc_law_small pm_law_small cd_law_small ct_law_small oc_law_middle kV_law_middle dc_law_middle pm_law_middle cd_law_middle ct_law_middle oc_law_any kV_law_any dc_law_any pm_law_any cd_law_any ct_law_any oc_law_draws kV_law_draws dc_law_draws pm_law_draws cd_law_draws ct_law_draws oc_lots_put kV_lots_put dc_lots_put pm_lots_put cd_lots_put ct_lots_put oc_family_list kV_family_list dc_family_list pm_family_list cd_family_list ct_family_list oc_families_for kV_families_for dc_families_for pm_families_for cd_families_for ct_families_for oc_starts_of kV_starts_of dc_starts_of pm_starts_of cd_starts_of ct_starts_of oc_Mcall kV_Mcall dc_Mcall pm_Mcall cd_Mcall ct_Mcall oc_ask_names kV_ask_names dc_ask_names pm_ask_names cd_ask_names ct_ask_names oc_merged kV_merged dc_merged pm_merged cd_merged ct_merged oc_renamed kV_renamed dc_renamed pm_renamed cd_renamed ct_renamed oc_ask_some kV_ask_some dc_ask_some pm_ask_some cd_ask_some ct_ask_some oc_beside kV_beside dc_beside pm_beside cd_beside ct_beside oc_both kV_both dc_both pm_both cd_both ct_both oc_ask_between kV_ask_between dc_ask_between pm_ask_between cd_ask_between ct_ask_between oc_choices_of kV_choices_of dc_choices_of pm_choices_of cd_choices_of ct_choices_of oc_votes kV_votes dc_votes pm_votes cd_votes ct_votes oc_law_holds kV_law_holds dc_law_holds pm_law_holds cd_law_holds ct_law_holds oc_law_name_sets kV_law_name_sets dc_law_name_sets pm_law_name_sets cd_law_name_sets ct_law_name_sets oc_law_order kV_law_order dc_law_order pm_law_order cd_law_order ct_law_order oc_law_right_merged kV_law_right_merged dc_law_right_merged pm_law_right_merged cd_law_right_merged ct_law_right_merged oc_law_names_word kV_law_names_word dc_law_names_word pm_law_names_word cd_law_names_word ct_law_names_word oc_law_together kV_law_together dc_law_together pm_law_together cd_law_together ct_law_together oc_law_together_word kV_law_together_word dc_law_together_word pm_law_together_word cd_law_together_word ct_law_together_word oc_law_right_together kV_law_right_together dc_law_right_together pm_law_right_together cd_law_right_together ct_law_right_together oc_law_wrong_names kV_law_wrong_names dc_law_wrong_names pm_law_wrong_names cd_law_wrong_names ct_law_wrong_names oc_law kV_law dc_law pm_law cd_law ct_law : Value}
    {ocB dVB kVB docB pmB ctB cclB clB : Value} {odB anB cddB cldB : Option Addr} {cdaB ccB : Addr} {slB ccsB cslB : Array (Option Value)} {vsB : Array Value} {fileB : Str} {tfB : Tok} {parB : Arguments} {arB : Arg} {jB : Nat} {pB0 pB1 pB2 pB3 pB4 pB5 pB6 pB7 pB8 pB9 pB10 pB11 pB12 : Pos} {ocN dVN kVN docN pmN ctN cclN clN : Value} {odN anN cddN cldN : Option Addr} {cdaN ccN : Addr} {slN ccsN cslN : Array (Option Value)} {vsN : Array Value} {fileN : Str} {tfN : Tok} {parN : Arguments} {arN : Arg} {jN : Nat} {pN0 pN1 pN2 pN3 pN4 pN5 pN6 pN7 pN8 pN9 pN10 pN11 pN12 : Pos} {ocM dVM kVM docM pmM ctM cclM clM : Value} {odM anM cddM cldM : Option Addr} {cdaM ccM : Addr} {slM ccsM cslM : Array (Option Value)} {vsM : Array Value} {fileM : Str} {tfM : Tok} {parM : Arguments} {arM : Arg} {jM : Nat} {pM0 pM1 pM2 pM3 pM4 pM5 pM6 pM7 pM8 pM9 pM10 pM11 pM12 : Pos} {ocF dVF kVF docF pmF ctF cclF clF : Value} {odF anF cddF cldF : Option Addr} {cdaF ccF : Addr} {slF ccsF cslF : Array (Option Value)} {vsF : Array Value} {fileF : Str} {tfF : Tok} {parF : Arguments} {arF : Arg} {jF : Nat} {pF0 pF1 pF2 pF3 pF4 pF5 pF6 pF7 pF8 pF9 pF10 pF11 pF12 : Pos}
    (aC : PySem.W.nsIn K mainGlobals "Family" = some (some (.ref C)))
    (aT : PySem.W.nsIn K mainGlobals "Trouble" = some (some (.ref CT)))
    (aM : PySem.W.nsIn K mainGlobals "MOST_THINGS" = some (some (.int 60 tM)))
    (aBx : PySem.W.nsIn K mainGlobals "BadSet" = some (some (.ref CB)))
    (aNx : PySem.W.nsIn K mainGlobals "BadNumber" = some (some (.ref CN)))
    (aMx : PySem.W.nsIn K mainGlobals "BadNames" = some (some (.ref CM)))
    (aFx : PySem.W.nsIn K mainGlobals "BadFamily" = some (some (.ref CF)))
    (a_mask_of : PySem.W.nsIn K mainGlobals "mask_of" = some (some (.ref f_mask_of)))
    (l_mask_of : K.lookup f_mask_of = some ⟨oc_mask_of, od_mask_of, .func (PySem.W.fnOf "mask_of" "mask_of" (defArgs s_mask_of) (defBody s_mask_of) (defScope s_mask_of) .none kV_mask_of dc_mask_of pm_mask_of an_mask_of cd_mask_of ct_mask_of), sl_mask_of⟩)
    (c_mask_of : PySem.W.codeIn K cd_mask_of "mask_of" = true)
    (k_mask_of : PySem.W.keepIn K (.ref f_mask_of) = true)
    (a_things_of : PySem.W.nsIn K mainGlobals "things_of" = some (some (.ref f_things_of)))
    (l_things_of : K.lookup f_things_of = some ⟨oc_things_of, od_things_of, .func (PySem.W.fnOf "things_of" "things_of" (defArgs s_things_of) (defBody s_things_of) (defScope s_things_of) .none kV_things_of dc_things_of pm_things_of an_things_of cd_things_of ct_things_of), sl_things_of⟩)
    (c_things_of : PySem.W.codeIn K cd_things_of "things_of" = true)
    (k_things_of : PySem.W.keepIn K (.ref f_things_of) = true)
    (a_least_masks : PySem.W.nsIn K mainGlobals "least_masks" = some (some (.ref f_least_masks)))
    (l_least_masks : K.lookup f_least_masks = some ⟨oc_least_masks, od_least_masks, .func (PySem.W.fnOf "least_masks" "least_masks" (defArgs s_least_masks) (defBody s_least_masks) (defScope s_least_masks) .none kV_least_masks dc_least_masks pm_least_masks an_least_masks cd_least_masks ct_least_masks), sl_least_masks⟩)
    (c_least_masks : PySem.W.codeIn K cd_least_masks "least_masks" = true)
    (k_least_masks : PySem.W.keepIn K (.ref f_least_masks) = true)
    (a_lots_of_masks : PySem.W.nsIn K mainGlobals "lots_of_masks" = some (some (.ref f_lots_of_masks)))
    (l_lots_of_masks : K.lookup f_lots_of_masks = some ⟨oc_lots_of_masks, od_lots_of_masks, .func (PySem.W.fnOf "lots_of_masks" "lots_of_masks" (defArgs s_lots_of_masks) (defBody s_lots_of_masks) (defScope s_lots_of_masks) .none kV_lots_of_masks dc_lots_of_masks pm_lots_of_masks an_lots_of_masks cd_lots_of_masks ct_lots_of_masks), sl_lots_of_masks⟩)
    (c_lots_of_masks : PySem.W.codeIn K cd_lots_of_masks "lots_of_masks" = true)
    (k_lots_of_masks : PySem.W.keepIn K (.ref f_lots_of_masks) = true)
    (a_least_lots : PySem.W.nsIn K mainGlobals "least_lots" = some (some (.ref f_least_lots)))
    (l_least_lots : K.lookup f_least_lots = some ⟨oc_least_lots, od_least_lots, .func (PySem.W.fnOf "least_lots" "least_lots" (defArgs s_least_lots) (defBody s_least_lots) (defScope s_least_lots) .none kV_least_lots dc_least_lots pm_least_lots an_least_lots cd_least_lots ct_least_lots), sl_least_lots⟩)
    (c_least_lots : PySem.W.codeIn K cd_least_lots "least_lots" = true)
    (k_least_lots : PySem.W.keepIn K (.ref f_least_lots) = true)
    (a_blocker_lots : PySem.W.nsIn K mainGlobals "blocker_lots" = some (some (.ref f_blocker_lots)))
    (l_blocker_lots : K.lookup f_blocker_lots = some ⟨oc_blocker_lots, od_blocker_lots, .func (PySem.W.fnOf "blocker_lots" "blocker_lots" (defArgs s_blocker_lots) (defBody s_blocker_lots) (defScope s_blocker_lots) .none kV_blocker_lots dc_blocker_lots pm_blocker_lots an_blocker_lots cd_blocker_lots ct_blocker_lots), sl_blocker_lots⟩)
    (c_blocker_lots : PySem.W.codeIn K cd_blocker_lots "blocker_lots" = true)
    (k_blocker_lots : PySem.W.keepIn K (.ref f_blocker_lots) = true)
    (a_law_inside : PySem.W.nsIn K mainGlobals "_law_inside" = some (some (.ref f_law_inside)))
    (l_law_inside : K.lookup f_law_inside = some ⟨oc_law_inside, od_law_inside, .func (PySem.W.fnOf "_law_inside" "_law_inside" (defArgs s_law_inside) (defBody s_law_inside) (defScope s_law_inside) .none kV_law_inside dc_law_inside pm_law_inside an_law_inside cd_law_inside ct_law_inside), sl_law_inside⟩)
    (c_law_inside : PySem.W.codeIn K cd_law_inside "_law_inside" = true)
    (k_law_inside : PySem.W.keepIn K (.ref f_law_inside) = true)
    (a_law_common : PySem.W.nsIn K mainGlobals "_law_common" = some (some (.ref f_law_common)))
    (l_law_common : K.lookup f_law_common = some ⟨oc_law_common, od_law_common, .func (PySem.W.fnOf "_law_common" "_law_common" (defArgs s_law_common) (defBody s_law_common) (defScope s_law_common) .none kV_law_common dc_law_common pm_law_common an_law_common cd_law_common ct_law_common), sl_law_common⟩)
    (c_law_common : PySem.W.codeIn K cd_law_common "_law_common" = true)
    (k_law_common : PySem.W.keepIn K (.ref f_law_common) = true)
    (a_law_subsets : PySem.W.nsIn K mainGlobals "_law_subsets" = some (some (.ref f_law_subsets)))
    (l_law_subsets : K.lookup f_law_subsets = some ⟨oc_law_subsets, od_law_subsets, .func (PySem.W.fnOf "_law_subsets" "_law_subsets" (defArgs s_law_subsets) (defBody s_law_subsets) (defScope s_law_subsets) .none kV_law_subsets dc_law_subsets pm_law_subsets an_law_subsets cd_law_subsets ct_law_subsets), sl_law_subsets⟩)
    (c_law_subsets : PySem.W.codeIn K cd_law_subsets "_law_subsets" = true)
    (k_law_subsets : PySem.W.keepIn K (.ref f_law_subsets) = true)
    (a_law_least : PySem.W.nsIn K mainGlobals "_law_least" = some (some (.ref f_law_least)))
    (l_law_least : K.lookup f_law_least = some ⟨oc_law_least, od_law_least, .func (PySem.W.fnOf "_law_least" "_law_least" (defArgs s_law_least) (defBody s_law_least) (defScope s_law_least) .none kV_law_least dc_law_least pm_law_least an_law_least cd_law_least ct_law_least), sl_law_least⟩)
    (c_law_least : PySem.W.codeIn K cd_law_least "_law_least" = true)
    (k_law_least : PySem.W.keepIn K (.ref f_law_least) = true)
    (a_law_meets : PySem.W.nsIn K mainGlobals "_law_meets" = some (some (.ref f_law_meets)))
    (l_law_meets : K.lookup f_law_meets = some ⟨oc_law_meets, od_law_meets, .func (PySem.W.fnOf "_law_meets" "_law_meets" (defArgs s_law_meets) (defBody s_law_meets) (defScope s_law_meets) .none kV_law_meets dc_law_meets pm_law_meets an_law_meets cd_law_meets ct_law_meets), sl_law_meets⟩)
    (c_law_meets : PySem.W.codeIn K cd_law_meets "_law_meets" = true)
    (k_law_meets : PySem.W.keepIn K (.ref f_law_meets) = true)
    (a_law_blocker : PySem.W.nsIn K mainGlobals "_law_blocker" = some (some (.ref f_law_blocker)))
    (l_law_blocker : K.lookup f_law_blocker = some ⟨oc_law_blocker, od_law_blocker, .func (PySem.W.fnOf "_law_blocker" "_law_blocker" (defArgs s_law_blocker) (defBody s_law_blocker) (defScope s_law_blocker) .none kV_law_blocker dc_law_blocker pm_law_blocker an_law_blocker cd_law_blocker ct_law_blocker), sl_law_blocker⟩)
    (c_law_blocker : PySem.W.codeIn K cd_law_blocker "_law_blocker" = true)
    (k_law_blocker : PySem.W.keepIn K (.ref f_law_blocker) = true)
    (a_law_sized : PySem.W.nsIn K mainGlobals "_law_sized" = some (some (.ref f_law_sized)))
    (l_law_sized : K.lookup f_law_sized = some ⟨oc_law_sized, od_law_sized, .func (PySem.W.fnOf "_law_sized" "_law_sized" (defArgs s_law_sized) (defBody s_law_sized) (defScope s_law_sized) .none kV_law_sized dc_law_sized pm_law_sized an_law_sized cd_law_sized ct_law_sized), sl_law_sized⟩)
    (c_law_sized : PySem.W.codeIn K cd_law_sized "_law_sized" = true)
    (k_law_sized : PySem.W.keepIn K (.ref f_law_sized) = true)
    (a_law_fan : PySem.W.nsIn K mainGlobals "_law_fan" = some (some (.ref f_law_fan)))
    (l_law_fan : K.lookup f_law_fan = some ⟨oc_law_fan, od_law_fan, .func (PySem.W.fnOf "_law_fan" "_law_fan" (defArgs s_law_fan) (defBody s_law_fan) (defScope s_law_fan) .none kV_law_fan dc_law_fan pm_law_fan an_law_fan cd_law_fan ct_law_fan), sl_law_fan⟩)
    (c_law_fan : PySem.W.codeIn K cd_law_fan "_law_fan" = true)
    (k_law_fan : PySem.W.keepIn K (.ref f_law_fan) = true)
    (a_law_ring : PySem.W.nsIn K mainGlobals "_law_ring" = some (some (.ref f_law_ring)))
    (l_law_ring : K.lookup f_law_ring = some ⟨oc_law_ring, od_law_ring, .func (PySem.W.fnOf "_law_ring" "_law_ring" (defArgs s_law_ring) (defBody s_law_ring) (defScope s_law_ring) .none kV_law_ring dc_law_ring pm_law_ring an_law_ring cd_law_ring ct_law_ring), sl_law_ring⟩)
    (c_law_ring : PySem.W.codeIn K cd_law_ring "_law_ring" = true)
    (k_law_ring : PySem.W.keepIn K (.ref f_law_ring) = true)
    (a_is_integer : PySem.W.nsIn K mainGlobals "is_integer" = some (some (.ref f_is_integer)))
    (l_is_integer : K.lookup f_is_integer = some ⟨oc_is_integer, od_is_integer, .func (PySem.W.fnOf "is_integer" "is_integer" (defArgs s_is_integer) (defBody s_is_integer) (defScope s_is_integer) .none kV_is_integer dc_is_integer pm_is_integer an_is_integer cd_is_integer ct_is_integer), sl_is_integer⟩)
    (c_is_integer : PySem.W.codeIn K cd_is_integer "is_integer" = true)
    (k_is_integer : PySem.W.keepIn K (.ref f_is_integer) = true)
    (a_ask_size : PySem.W.nsIn K mainGlobals "ask_size" = some (some (.ref f_ask_size)))
    (l_ask_size : K.lookup f_ask_size = some ⟨oc_ask_size, od_ask_size, .func (PySem.W.fnOf "ask_size" "ask_size" (defArgs s_ask_size) (defBody s_ask_size) (defScope s_ask_size) .none kV_ask_size dc_ask_size pm_ask_size an_ask_size cd_ask_size ct_ask_size), sl_ask_size⟩)
    (c_ask_size : PySem.W.codeIn K cd_ask_size "ask_size" = true)
    (k_ask_size : PySem.W.keepIn K (.ref f_ask_size) = true)
    (a_is_thing : PySem.W.nsIn K mainGlobals "is_thing" = some (some (.ref f_is_thing)))
    (l_is_thing : K.lookup f_is_thing = some ⟨oc_is_thing, od_is_thing, .func (PySem.W.fnOf "is_thing" "is_thing" (defArgs s_is_thing) (defBody s_is_thing) (defScope s_is_thing) .none kV_is_thing dc_is_thing pm_is_thing an_is_thing cd_is_thing ct_is_thing), sl_is_thing⟩)
    (c_is_thing : PySem.W.codeIn K cd_is_thing "is_thing" = true)
    (k_is_thing : PySem.W.keepIn K (.ref f_is_thing) = true)
    (a_set_of : PySem.W.nsIn K mainGlobals "set_of" = some (some (.ref f_set_of)))
    (l_set_of : K.lookup f_set_of = some ⟨oc_set_of, od_set_of, .func (PySem.W.fnOf "set_of" "set_of" (defArgs s_set_of) (defBody s_set_of) (defScope s_set_of) .none kV_set_of dc_set_of pm_set_of an_set_of cd_set_of ct_set_of), sl_set_of⟩)
    (c_set_of : PySem.W.codeIn K cd_set_of "set_of" = true)
    (k_set_of : PySem.W.keepIn K (.ref f_set_of) = true)
    (a_ask_things : PySem.W.nsIn K mainGlobals "ask_things" = some (some (.ref f_ask_things)))
    (l_ask_things : K.lookup f_ask_things = some ⟨oc_ask_things, od_ask_things, .func (PySem.W.fnOf "ask_things" "ask_things" (defArgs s_ask_things) (defBody s_ask_things) (defScope s_ask_things) .none kV_ask_things dc_ask_things pm_ask_things an_ask_things cd_ask_things ct_ask_things), sl_ask_things⟩)
    (c_ask_things : PySem.W.codeIn K cd_ask_things "ask_things" = true)
    (k_ask_things : PySem.W.keepIn K (.ref f_ask_things) = true)
    (a_checked_lot : PySem.W.nsIn K mainGlobals "checked_lot" = some (some (.ref f_checked_lot)))
    (l_checked_lot : K.lookup f_checked_lot = some ⟨oc_checked_lot, od_checked_lot, .func (PySem.W.fnOf "checked_lot" "checked_lot" (defArgs s_checked_lot) (defBody s_checked_lot) (defScope s_checked_lot) .none kV_checked_lot dc_checked_lot pm_checked_lot an_checked_lot cd_checked_lot ct_checked_lot), sl_checked_lot⟩)
    (c_checked_lot : PySem.W.codeIn K cd_checked_lot "checked_lot" = true)
    (k_checked_lot : PySem.W.keepIn K (.ref f_checked_lot) = true)
    (a_Minit : PySem.W.findIn K (.ref C) "__init__" = some (some (.ref f_Minit)))
    (i_Minit : PySem.W.isFn K (.ref f_Minit) = true)
    (l_Minit : K.lookup f_Minit = some ⟨oc_Minit, od_Minit, .func (PySem.W.fnOf "__init__" "Family.__init__" (defArgs s_Family_init) (defBody s_Family_init) (defScope s_Family_init) .none kV_Minit dc_Minit pm_Minit an_Minit cd_Minit ct_Minit), sl_Minit⟩)
    (c_Minit : PySem.W.codeIn K cd_Minit "Family.__init__" = true)
    (k_Minit : PySem.W.keepIn K (.ref f_Minit) = true)
    (a_Meq : PySem.W.findIn K (.ref C) "__eq__" = some (some (.ref f_Meq)))
    (i_Meq : PySem.W.isFn K (.ref f_Meq) = true)
    (l_Meq : K.lookup f_Meq = some ⟨oc_Meq, od_Meq, .func (PySem.W.fnOf "__eq__" "Family.__eq__" (defArgs s_Family_eq) (defBody s_Family_eq) (defScope s_Family_eq) .none kV_Meq dc_Meq pm_Meq an_Meq cd_Meq ct_Meq), sl_Meq⟩)
    (c_Meq : PySem.W.codeIn K cd_Meq "Family.__eq__" = true)
    (k_Meq : PySem.W.keepIn K (.ref f_Meq) = true)
    (a_Minvert : PySem.W.findIn K (.ref C) "__invert__" = some (some (.ref f_Minvert)))
    (i_Minvert : PySem.W.isFn K (.ref f_Minvert) = true)
    (l_Minvert : K.lookup f_Minvert = some ⟨oc_Minvert, od_Minvert, .func (PySem.W.fnOf "__invert__" "Family.__invert__" (defArgs s_Family_invert) (defBody s_Family_invert) (defScope s_Family_invert) .none kV_Minvert dc_Minvert pm_Minvert an_Minvert cd_Minvert ct_Minvert), sl_Minvert⟩)
    (c_Minvert : PySem.W.codeIn K cd_Minvert "Family.__invert__" = true)
    (k_Minvert : PySem.W.keepIn K (.ref f_Minvert) = true)
    (a_Mholds : PySem.W.findIn K (.ref C) "holds" = some (some (.ref f_Mholds)))
    (i_Mholds : PySem.W.isFn K (.ref f_Mholds) = true)
    (l_Mholds : K.lookup f_Mholds = some ⟨oc_Mholds, od_Mholds, .func (PySem.W.fnOf "holds" "Family.holds" (defArgs s_Family_holds) (defBody s_Family_holds) (defScope s_Family_holds) .none kV_Mholds dc_Mholds pm_Mholds an_Mholds cd_Mholds ct_Mholds), sl_Mholds⟩)
    (c_Mholds : PySem.W.codeIn K cd_Mholds "Family.holds" = true)
    (k_Mholds : PySem.W.keepIn K (.ref f_Mholds) = true)
    (a_law_pick : PySem.W.nsIn K mainGlobals "_law_pick" = some (some (.ref f_law_pick)))
    (l_law_pick : K.lookup f_law_pick = some ⟨oc_law_pick, od_law_pick, .func (PySem.W.fnOf "_law_pick" "_law_pick" (defArgs s_law_pick) (defBody s_law_pick) (defScope s_law_pick) .none kV_law_pick dc_law_pick pm_law_pick an_law_pick cd_law_pick ct_law_pick), sl_law_pick⟩)
    (c_law_pick : PySem.W.codeIn K cd_law_pick "_law_pick" = true)
    (k_law_pick : PySem.W.keepIn K (.ref f_law_pick) = true)
    (a_law_chosen : PySem.W.nsIn K mainGlobals "_law_chosen" = some (some (.ref f_law_chosen)))
    (l_law_chosen : K.lookup f_law_chosen = some ⟨oc_law_chosen, od_law_chosen, .func (PySem.W.fnOf "_law_chosen" "_law_chosen" (defArgs s_law_chosen) (defBody s_law_chosen) (defScope s_law_chosen) .none kV_law_chosen dc_law_chosen pm_law_chosen an_law_chosen cd_law_chosen ct_law_chosen), sl_law_chosen⟩)
    (c_law_chosen : PySem.W.codeIn K cd_law_chosen "_law_chosen" = true)
    (k_law_chosen : PySem.W.keepIn K (.ref f_law_chosen) = true)
    (a_law_mixed_lots : PySem.W.nsIn K mainGlobals "_law_mixed_lots" = some (some (.ref f_law_mixed_lots)))
    (l_law_mixed_lots : K.lookup f_law_mixed_lots = some ⟨oc_law_mixed_lots, od_law_mixed_lots, .func (PySem.W.fnOf "_law_mixed_lots" "_law_mixed_lots" (defArgs s_law_mixed_lots) (defBody s_law_mixed_lots) (defScope s_law_mixed_lots) .none kV_law_mixed_lots dc_law_mixed_lots pm_law_mixed_lots an_law_mixed_lots cd_law_mixed_lots ct_law_mixed_lots), sl_law_mixed_lots⟩)
    (c_law_mixed_lots : PySem.W.codeIn K cd_law_mixed_lots "_law_mixed_lots" = true)
    (k_law_mixed_lots : PySem.W.keepIn K (.ref f_law_mixed_lots) = true)
    (a_law_moved : PySem.W.nsIn K mainGlobals "_law_moved" = some (some (.ref f_law_moved)))
    (l_law_moved : K.lookup f_law_moved = some ⟨oc_law_moved, od_law_moved, .func (PySem.W.fnOf "_law_moved" "_law_moved" (defArgs s_law_moved) (defBody s_law_moved) (defScope s_law_moved) .none kV_law_moved dc_law_moved pm_law_moved an_law_moved cd_law_moved ct_law_moved), sl_law_moved⟩)
    (c_law_moved : PySem.W.codeIn K cd_law_moved "_law_moved" = true)
    (k_law_moved : PySem.W.keepIn K (.ref f_law_moved) = true)
    (a_law_small : PySem.W.nsIn K mainGlobals "_law_small" = some (some (.ref f_law_small)))
    (l_law_small : K.lookup f_law_small = some ⟨oc_law_small, od_law_small, .func (PySem.W.fnOf "_law_small" "_law_small" (defArgs s_law_small) (defBody s_law_small) (defScope s_law_small) .none kV_law_small dc_law_small pm_law_small an_law_small cd_law_small ct_law_small), sl_law_small⟩)
    (c_law_small : PySem.W.codeIn K cd_law_small "_law_small" = true)
    (k_law_small : PySem.W.keepIn K (.ref f_law_small) = true)
    (a_law_middle : PySem.W.nsIn K mainGlobals "_law_middle" = some (some (.ref f_law_middle)))
    (l_law_middle : K.lookup f_law_middle = some ⟨oc_law_middle, od_law_middle, .func (PySem.W.fnOf "_law_middle" "_law_middle" (defArgs s_law_middle) (defBody s_law_middle) (defScope s_law_middle) .none kV_law_middle dc_law_middle pm_law_middle an_law_middle cd_law_middle ct_law_middle), sl_law_middle⟩)
    (c_law_middle : PySem.W.codeIn K cd_law_middle "_law_middle" = true)
    (k_law_middle : PySem.W.keepIn K (.ref f_law_middle) = true)
    (a_law_any : PySem.W.nsIn K mainGlobals "_law_any" = some (some (.ref f_law_any)))
    (l_law_any : K.lookup f_law_any = some ⟨oc_law_any, od_law_any, .func (PySem.W.fnOf "_law_any" "_law_any" (defArgs s_law_any) (defBody s_law_any) (defScope s_law_any) .none kV_law_any dc_law_any pm_law_any an_law_any cd_law_any ct_law_any), sl_law_any⟩)
    (c_law_any : PySem.W.codeIn K cd_law_any "_law_any" = true)
    (k_law_any : PySem.W.keepIn K (.ref f_law_any) = true)
    (a_law_draws : PySem.W.nsIn K mainGlobals "_law_draws" = some (some (.ref f_law_draws)))
    (l_law_draws : K.lookup f_law_draws = some ⟨oc_law_draws, od_law_draws, .func (PySem.W.fnOf "_law_draws" "_law_draws" (defArgs s_law_draws) (defBody s_law_draws) (defScope s_law_draws) .none kV_law_draws dc_law_draws pm_law_draws an_law_draws cd_law_draws ct_law_draws), sl_law_draws⟩)
    (c_law_draws : PySem.W.codeIn K cd_law_draws "_law_draws" = true)
    (k_law_draws : PySem.W.keepIn K (.ref f_law_draws) = true)
    (a_lots_put : PySem.W.nsIn K mainGlobals "lots_put" = some (some (.ref f_lots_put)))
    (l_lots_put : K.lookup f_lots_put = some ⟨oc_lots_put, od_lots_put, .func (PySem.W.fnOf "lots_put" "lots_put" (defArgs s_lots_put) (defBody s_lots_put) (defScope s_lots_put) .none kV_lots_put dc_lots_put pm_lots_put an_lots_put cd_lots_put ct_lots_put), sl_lots_put⟩)
    (c_lots_put : PySem.W.codeIn K cd_lots_put "lots_put" = true)
    (k_lots_put : PySem.W.keepIn K (.ref f_lots_put) = true)
    (a_family_list : PySem.W.nsIn K mainGlobals "family_list" = some (some (.ref f_family_list)))
    (l_family_list : K.lookup f_family_list = some ⟨oc_family_list, od_family_list, .func (PySem.W.fnOf "family_list" "family_list" (defArgs s_family_list) (defBody s_family_list) (defScope s_family_list) .none kV_family_list dc_family_list pm_family_list an_family_list cd_family_list ct_family_list), sl_family_list⟩)
    (c_family_list : PySem.W.codeIn K cd_family_list "family_list" = true)
    (k_family_list : PySem.W.keepIn K (.ref f_family_list) = true)
    (a_families_for : PySem.W.nsIn K mainGlobals "families_for" = some (some (.ref f_families_for)))
    (l_families_for : K.lookup f_families_for = some ⟨oc_families_for, od_families_for, .func (PySem.W.fnOf "families_for" "families_for" (defArgs s_families_for) (defBody s_families_for) (defScope s_families_for) .none kV_families_for dc_families_for pm_families_for an_families_for cd_families_for ct_families_for), sl_families_for⟩)
    (c_families_for : PySem.W.codeIn K cd_families_for "families_for" = true)
    (k_families_for : PySem.W.keepIn K (.ref f_families_for) = true)
    (a_starts_of : PySem.W.nsIn K mainGlobals "starts_of" = some (some (.ref f_starts_of)))
    (l_starts_of : K.lookup f_starts_of = some ⟨oc_starts_of, od_starts_of, .func (PySem.W.fnOf "starts_of" "starts_of" (defArgs s_starts_of) (defBody s_starts_of) (defScope s_starts_of) .none kV_starts_of dc_starts_of pm_starts_of an_starts_of cd_starts_of ct_starts_of), sl_starts_of⟩)
    (c_starts_of : PySem.W.codeIn K cd_starts_of "starts_of" = true)
    (k_starts_of : PySem.W.keepIn K (.ref f_starts_of) = true)
    (a_Mcall : PySem.W.findIn K (.ref C) "__call__" = some (some (.ref f_Mcall)))
    (i_Mcall : PySem.W.isFn K (.ref f_Mcall) = true)
    (fn_Mcall : PySem.W.fnIn K f_Mcall = true)
    (l_Mcall : K.lookup f_Mcall = some ⟨oc_Mcall, od_Mcall, .func (PySem.W.fnOf "__call__" "Family.__call__" (defArgs s_Family_call) (defBody s_Family_call) (defScope s_Family_call) .none kV_Mcall dc_Mcall pm_Mcall an_Mcall cd_Mcall ct_Mcall), sl_Mcall⟩)
    (c_Mcall : PySem.W.codeIn K cd_Mcall "Family.__call__" = true)
    (k_Mcall : PySem.W.keepIn K (.ref f_Mcall) = true)
    (a_ask_names : PySem.W.nsIn K mainGlobals "ask_names" = some (some (.ref f_ask_names)))
    (l_ask_names : K.lookup f_ask_names = some ⟨oc_ask_names, od_ask_names, .func (PySem.W.fnOf "ask_names" "ask_names" (defArgs s_ask_names) (defBody s_ask_names) (defScope s_ask_names) .none kV_ask_names dc_ask_names pm_ask_names an_ask_names cd_ask_names ct_ask_names), sl_ask_names⟩)
    (c_ask_names : PySem.W.codeIn K cd_ask_names "ask_names" = true)
    (k_ask_names : PySem.W.keepIn K (.ref f_ask_names) = true)
    (a_merged : PySem.W.nsIn K mainGlobals "merged" = some (some (.ref f_merged)))
    (l_merged : K.lookup f_merged = some ⟨oc_merged, od_merged, .func (PySem.W.fnOf "merged" "merged" (defArgs s_merged) (defBody s_merged) (defScope s_merged) .none kV_merged dc_merged pm_merged an_merged cd_merged ct_merged), sl_merged⟩)
    (c_merged : PySem.W.codeIn K cd_merged "merged" = true)
    (k_merged : PySem.W.keepIn K (.ref f_merged) = true)
    (a_renamed : PySem.W.nsIn K mainGlobals "renamed" = some (some (.ref f_renamed)))
    (l_renamed : K.lookup f_renamed = some ⟨oc_renamed, od_renamed, .func (PySem.W.fnOf "renamed" "renamed" (defArgs s_renamed) (defBody s_renamed) (defScope s_renamed) .none kV_renamed dc_renamed pm_renamed an_renamed cd_renamed ct_renamed), sl_renamed⟩)
    (c_renamed : PySem.W.codeIn K cd_renamed "renamed" = true)
    (k_renamed : PySem.W.keepIn K (.ref f_renamed) = true)
    (a_ask_some : PySem.W.nsIn K mainGlobals "ask_some" = some (some (.ref f_ask_some)))
    (l_ask_some : K.lookup f_ask_some = some ⟨oc_ask_some, od_ask_some, .func (PySem.W.fnOf "ask_some" "ask_some" (defArgs s_ask_some) (defBody s_ask_some) (defScope s_ask_some) .none kV_ask_some dc_ask_some pm_ask_some an_ask_some cd_ask_some ct_ask_some), sl_ask_some⟩)
    (c_ask_some : PySem.W.codeIn K cd_ask_some "ask_some" = true)
    (k_ask_some : PySem.W.keepIn K (.ref f_ask_some) = true)
    (a_beside : PySem.W.nsIn K mainGlobals "beside" = some (some (.ref f_beside)))
    (l_beside : K.lookup f_beside = some ⟨oc_beside, od_beside, .func (PySem.W.fnOf "beside" "beside" (defArgs s_beside) (defBody s_beside) (defScope s_beside) .none kV_beside dc_beside pm_beside an_beside cd_beside ct_beside), sl_beside⟩)
    (c_beside : PySem.W.codeIn K cd_beside "beside" = true)
    (k_beside : PySem.W.keepIn K (.ref f_beside) = true)
    (s0_beside : bindArgs (PySem.W.fnOf "beside" "beside" (defArgs s_beside) (defBody s_beside) (defScope s_beside) .none kV_beside dc_beside pm_beside an_beside cd_beside ct_beside) ⟨[], []⟩ = (newTuple [] >>= fun t => pure [(("families" : Str), t)]))
    (s1_beside : ∀ (r : Value) (rs : List Value), bindArgs (PySem.W.fnOf "beside" "beside" (defArgs s_beside) (defBody s_beside) (defScope s_beside) .none kV_beside dc_beside pm_beside an_beside cd_beside ct_beside) ⟨r :: rs, []⟩ = (newTuple (r :: rs) >>= fun t => pure [(("families" : Str), t)]))
    (a_both : PySem.W.nsIn K mainGlobals "both" = some (some (.ref f_both)))
    (l_both : K.lookup f_both = some ⟨oc_both, od_both, .func (PySem.W.fnOf "both" "both" (defArgs s_both) (defBody s_both) (defScope s_both) .none kV_both dc_both pm_both an_both cd_both ct_both), sl_both⟩)
    (c_both : PySem.W.codeIn K cd_both "both" = true)
    (k_both : PySem.W.keepIn K (.ref f_both) = true)
    (s0_both : bindArgs (PySem.W.fnOf "both" "both" (defArgs s_both) (defBody s_both) (defScope s_both) .none kV_both dc_both pm_both an_both cd_both ct_both) ⟨[], []⟩ = (newTuple [] >>= fun t => pure [(("families" : Str), t)]))
    (s1_both : ∀ (r : Value) (rs : List Value), bindArgs (PySem.W.fnOf "both" "both" (defArgs s_both) (defBody s_both) (defScope s_both) .none kV_both dc_both pm_both an_both cd_both ct_both) ⟨r :: rs, []⟩ = (newTuple (r :: rs) >>= fun t => pure [(("families" : Str), t)]))
    (a_ask_between : PySem.W.nsIn K mainGlobals "ask_between" = some (some (.ref f_ask_between)))
    (l_ask_between : K.lookup f_ask_between = some ⟨oc_ask_between, od_ask_between, .func (PySem.W.fnOf "ask_between" "ask_between" (defArgs s_ask_between) (defBody s_ask_between) (defScope s_ask_between) .none kV_ask_between dc_ask_between pm_ask_between an_ask_between cd_ask_between ct_ask_between), sl_ask_between⟩)
    (c_ask_between : PySem.W.codeIn K cd_ask_between "ask_between" = true)
    (k_ask_between : PySem.W.keepIn K (.ref f_ask_between) = true)
    (a_choices_of : PySem.W.nsIn K mainGlobals "choices_of" = some (some (.ref f_choices_of)))
    (l_choices_of : K.lookup f_choices_of = some ⟨oc_choices_of, od_choices_of, .func (PySem.W.fnOf "choices_of" "choices_of" (defArgs s_choices_of) (defBody s_choices_of) (defScope s_choices_of) .none kV_choices_of dc_choices_of pm_choices_of an_choices_of cd_choices_of ct_choices_of), sl_choices_of⟩)
    (c_choices_of : PySem.W.codeIn K cd_choices_of "choices_of" = true)
    (k_choices_of : PySem.W.keepIn K (.ref f_choices_of) = true)
    (a_votes : PySem.W.nsIn K mainGlobals "votes" = some (some (.ref f_votes)))
    (l_votes : K.lookup f_votes = some ⟨oc_votes, od_votes, .func (PySem.W.fnOf "votes" "votes" (defArgs s_votes) (defBody s_votes) (defScope s_votes) .none kV_votes dc_votes pm_votes an_votes cd_votes ct_votes), sl_votes⟩)
    (c_votes : PySem.W.codeIn K cd_votes "votes" = true)
    (k_votes : PySem.W.keepIn K (.ref f_votes) = true)
    (a_law_holds : PySem.W.nsIn K mainGlobals "_law_holds" = some (some (.ref f_law_holds)))
    (l_law_holds : K.lookup f_law_holds = some ⟨oc_law_holds, od_law_holds, .func (PySem.W.fnOf "_law_holds" "_law_holds" (defArgs s_law_holds) (defBody s_law_holds) (defScope s_law_holds) .none kV_law_holds dc_law_holds pm_law_holds an_law_holds cd_law_holds ct_law_holds), sl_law_holds⟩)
    (c_law_holds : PySem.W.codeIn K cd_law_holds "_law_holds" = true)
    (k_law_holds : PySem.W.keepIn K (.ref f_law_holds) = true)
    (a_law_name_sets : PySem.W.nsIn K mainGlobals "_law_name_sets" = some (some (.ref f_law_name_sets)))
    (l_law_name_sets : K.lookup f_law_name_sets = some ⟨oc_law_name_sets, od_law_name_sets, .func (PySem.W.fnOf "_law_name_sets" "_law_name_sets" (defArgs s_law_name_sets) (defBody s_law_name_sets) (defScope s_law_name_sets) .none kV_law_name_sets dc_law_name_sets pm_law_name_sets an_law_name_sets cd_law_name_sets ct_law_name_sets), sl_law_name_sets⟩)
    (c_law_name_sets : PySem.W.codeIn K cd_law_name_sets "_law_name_sets" = true)
    (k_law_name_sets : PySem.W.keepIn K (.ref f_law_name_sets) = true)
    (a_law_order : PySem.W.nsIn K mainGlobals "_law_order" = some (some (.ref f_law_order)))
    (l_law_order : K.lookup f_law_order = some ⟨oc_law_order, od_law_order, .func (PySem.W.fnOf "_law_order" "_law_order" (defArgs s_law_order) (defBody s_law_order) (defScope s_law_order) .none kV_law_order dc_law_order pm_law_order an_law_order cd_law_order ct_law_order), sl_law_order⟩)
    (c_law_order : PySem.W.codeIn K cd_law_order "_law_order" = true)
    (k_law_order : PySem.W.keepIn K (.ref f_law_order) = true)
    (a_law_right_merged : PySem.W.nsIn K mainGlobals "_law_right_merged" = some (some (.ref f_law_right_merged)))
    (l_law_right_merged : K.lookup f_law_right_merged = some ⟨oc_law_right_merged, od_law_right_merged, .func (PySem.W.fnOf "_law_right_merged" "_law_right_merged" (defArgs s_law_right_merged) (defBody s_law_right_merged) (defScope s_law_right_merged) .none kV_law_right_merged dc_law_right_merged pm_law_right_merged an_law_right_merged cd_law_right_merged ct_law_right_merged), sl_law_right_merged⟩)
    (c_law_right_merged : PySem.W.codeIn K cd_law_right_merged "_law_right_merged" = true)
    (k_law_right_merged : PySem.W.keepIn K (.ref f_law_right_merged) = true)
    (a_law_names_word : PySem.W.nsIn K mainGlobals "_law_names_word" = some (some (.ref f_law_names_word)))
    (l_law_names_word : K.lookup f_law_names_word = some ⟨oc_law_names_word, od_law_names_word, .func (PySem.W.fnOf "_law_names_word" "_law_names_word" (defArgs s_law_names_word) (defBody s_law_names_word) (defScope s_law_names_word) .none kV_law_names_word dc_law_names_word pm_law_names_word an_law_names_word cd_law_names_word ct_law_names_word), sl_law_names_word⟩)
    (c_law_names_word : PySem.W.codeIn K cd_law_names_word "_law_names_word" = true)
    (k_law_names_word : PySem.W.keepIn K (.ref f_law_names_word) = true)
    (a_law_together : PySem.W.nsIn K mainGlobals "_law_together" = some (some (.ref f_law_together)))
    (l_law_together : K.lookup f_law_together = some ⟨oc_law_together, od_law_together, .func (PySem.W.fnOf "_law_together" "_law_together" (defArgs s_law_together) (defBody s_law_together) (defScope s_law_together) .none kV_law_together dc_law_together pm_law_together an_law_together cd_law_together ct_law_together), sl_law_together⟩)
    (c_law_together : PySem.W.codeIn K cd_law_together "_law_together" = true)
    (k_law_together : PySem.W.keepIn K (.ref f_law_together) = true)
    (a_law_together_word : PySem.W.nsIn K mainGlobals "_law_together_word" = some (some (.ref f_law_together_word)))
    (l_law_together_word : K.lookup f_law_together_word = some ⟨oc_law_together_word, od_law_together_word, .func (PySem.W.fnOf "_law_together_word" "_law_together_word" (defArgs s_law_together_word) (defBody s_law_together_word) (defScope s_law_together_word) .none kV_law_together_word dc_law_together_word pm_law_together_word an_law_together_word cd_law_together_word ct_law_together_word), sl_law_together_word⟩)
    (c_law_together_word : PySem.W.codeIn K cd_law_together_word "_law_together_word" = true)
    (k_law_together_word : PySem.W.keepIn K (.ref f_law_together_word) = true)
    (a_law_right_together : PySem.W.nsIn K mainGlobals "_law_right_together" = some (some (.ref f_law_right_together)))
    (l_law_right_together : K.lookup f_law_right_together = some ⟨oc_law_right_together, od_law_right_together, .func (PySem.W.fnOf "_law_right_together" "_law_right_together" (defArgs s_law_right_together) (defBody s_law_right_together) (defScope s_law_right_together) .none kV_law_right_together dc_law_right_together pm_law_right_together an_law_right_together cd_law_right_together ct_law_right_together), sl_law_right_together⟩)
    (c_law_right_together : PySem.W.codeIn K cd_law_right_together "_law_right_together" = true)
    (k_law_right_together : PySem.W.keepIn K (.ref f_law_right_together) = true)
    (a_law_wrong_names : PySem.W.nsIn K mainGlobals "_law_wrong_names" = some (some (.ref f_law_wrong_names)))
    (l_law_wrong_names : K.lookup f_law_wrong_names = some ⟨oc_law_wrong_names, od_law_wrong_names, .func (PySem.W.fnOf "_law_wrong_names" "_law_wrong_names" (defArgs s_law_wrong_names) (defBody s_law_wrong_names) (defScope s_law_wrong_names) .none kV_law_wrong_names dc_law_wrong_names pm_law_wrong_names an_law_wrong_names cd_law_wrong_names ct_law_wrong_names), sl_law_wrong_names⟩)
    (c_law_wrong_names : PySem.W.codeIn K cd_law_wrong_names "_law_wrong_names" = true)
    (k_law_wrong_names : PySem.W.keepIn K (.ref f_law_wrong_names) = true)
    (a_law : PySem.W.nsIn K mainGlobals "law" = some (some (.ref f_law)))
    (l_law : K.lookup f_law = some ⟨oc_law, od_law, .func (PySem.W.fnOf "law" "law" (defArgs s_law) (defBody s_law) (defScope s_law) .none kV_law dc_law pm_law an_law cd_law ct_law), sl_law⟩)
    (c_law : PySem.W.codeIn K cd_law "law" = true)
    (k_law : PySem.W.keepIn K (.ref f_law) = true)
    (pg : PySem.W.plainGet K C Str.empty = true)
    (hd : PySem.W.hasDictIn K C = true)
    (po : PySem.W.plainOver K C = true)
    (sa : PySem.W.findIn K (.ref C) "__setattr__" = some (some (.builtin "object.__setattr__")))
    (mk : PySem.W.makesIn K C = true)
    (kc : PySem.W.keepIn K (.ref C) = true)
    (nT : PySem.W.findIn K (.ref C) "things" = some none)
    (nL : PySem.W.findIn K (.ref C) "lots" = some none)
    (nf : PySem.W.notFirst K C (.ref C) = true)
    (tyC : PySem.W.typeIn K (.ref C) = some (.type "type"))
    (oc1 : PySem.W.findIn K (.ref C) "__class__" = some (some (.builtin "object.__class__")))
    (oc2 : PySem.W.specialIn K (.builtin "object.__class__") "__get__" = some (some (.builtin "getset_descriptor.__get__")))
    (oc3 : PySem.W.takesIn K (.builtin "object.__class__") = some true)
    (oc4 : PySem.W.mroIn K C (.type "object") = some true)
    (zsuper : PySem.W.nsIn K mainGlobals "super" = some none)
    (any : PySem.W.nsIn K cStatics "thirdparty.any" = some none)
    (topsup : (P.main.scope.names.lookup ("super" : Str)).isSome = false)
    (bB1 : PySem.W.findIn K (.ref CB) "__init__" = some (some (.ref fB)))
    (bB2 : PySem.W.excInitIn K CB excB "Exception.__new__" = true)
    (bB3 : PySem.W.excOver K CB excB = true)
    (bB4 : PySem.W.isFn K (.ref fB) = true)
    (bB5 : K.lookup fB = some ⟨ocB, odB, .func (PySem.W.ksFn "__init__" "BadSet.__init__" parB (excBody "bad set: place " jB pB0 pB1 pB2 pB3 pB4 pB5 pB6 pB7 pB8 pB9 pB10 pB11 pB12) excScope dVB kVB docB pmB anB (.ref cdaB) ctB ccB), slB⟩)
    (bB6 : PySem.W.codeIn K (.ref cdaB) "BadSet.__init__" = true)
    (bB7 : ∀ u v : Value, bindArgs (PySem.W.ksFn "__init__" "BadSet.__init__" parB (excBody "bad set: place " jB pB0 pB1 pB2 pB3 pB4 pB5 pB6 pB7 pB8 pB9 pB10 pB11 pB12) excScope dVB kVB docB pmB anB (.ref cdaB) ctB ccB) ⟨[u, v], []⟩ = (pure [(("self" : Str), u), (("place" : Str), v)] : Sem (List (Str × Value))))
    (bB8 : (parB.posonlyargs ++ parB.args).head? = some arB)
    (bB9 : arB.arg = "self")
    (bB10 : K.lookup cdaB = some ⟨cclB, cddB, .fields vsB, ccsB⟩)
    (bB11 : vsB[2]? = some (.str fileB tfB))
    (bB12 : ((P.main.file : Str) == fileB) = true)
    (bB13 : K.lookup ccB = some ⟨clB, cldB, .cell (some (.ref CB)), cslB⟩)
    (bBC : ∀ L : Addr, ∃ pl : Sem Bool, eval (.Call (.Attribute (.Call (.Name "super" pB0) [] [] pB1) "__init__" pB2) [.JoinedStr [.Constant (.str "bad set: place ") jB pB3, .FormattedValue (.Name "place" pB4) (-1) none pB5] pB6] [] pB7) (PySem.W.ksEnv "BadSet.__init__" excScope L fB (.ref cdaB) ccB) = (do let ov ← attributeBase (.Call (.Name "super" pB0) [] [] pB1) "__init__" (PySem.W.ksEnv "BadSet.__init__" excScope L fB (.ref cdaB) ccB) (eval (.Call (.Name "super" pB0) [] [] pB1) (PySem.W.ksEnv "BadSet.__init__" excScope L fB (.ref cdaB) ccB)); standAt pB2.atName; let (fm, first) ← holding [ov] (getMethod ov "__init__" pl); callWith pB7 fm first (backTo pB7 (starEach [.JoinedStr [.Constant (.str "bad set: place ") jB pB3, .FormattedValue (.Name "place" pB4) (-1) none pB5] pB6] (PySem.W.ksEnv "BadSet.__init__" excScope L fB (.ref cdaB) ccB))) []))
    (bB14 : PySem.W.ks_superIn K CB CB "__init__" = some (some (.builtin "Exception.__init__")))
    (bB16 : PySem.W.subIn K (.ref CB) (.type "Exception") = some true)
    (bB17 : PySem.W.mroIn K CB (.ref CB) = some true)
    (bB18 : PySem.W.findIn K (.ref CB) "__setattr__" = some (some (.builtin "object.__setattr__")))
    (bB19 : PySem.W.takerIn K CB "place" = some none)
    (bB20 : PySem.W.hasDictIn K CB = true)
    (bB21 : PySem.W.subIn K (.ref CB) (.type "BaseException") = some true)
    (bB22 : PySem.W.typeIn K (.ref CB) = some (.type "type"))
    (bB23 : PySem.W.keepIn K (.ref CB) = true)
    (bN1 : PySem.W.findIn K (.ref CN) "__init__" = some (some (.ref fN)))
    (bN2 : PySem.W.excInitIn K CN excB "Exception.__new__" = true)
    (bN3 : PySem.W.excOver K CN excB = true)
    (bN4 : PySem.W.isFn K (.ref fN) = true)
    (bN5 : K.lookup fN = some ⟨ocN, odN, .func (PySem.W.ksFn "__init__" "BadNumber.__init__" parN (exsBody "bad number: " jN pN0 pN1 pN2 pN3 pN4 pN5 pN6 pN7 pN8 pN9 pN10 pN11 pN12) exsScope dVN kVN docN pmN anN (.ref cdaN) ctN ccN), slN⟩)
    (bN6 : PySem.W.codeIn K (.ref cdaN) "BadNumber.__init__" = true)
    (bN7 : ∀ u v : Value, bindArgs (PySem.W.ksFn "__init__" "BadNumber.__init__" parN (exsBody "bad number: " jN pN0 pN1 pN2 pN3 pN4 pN5 pN6 pN7 pN8 pN9 pN10 pN11 pN12) exsScope dVN kVN docN pmN anN (.ref cdaN) ctN ccN) ⟨[u, v], []⟩ = (pure [(("self" : Str), u), (("word" : Str), v)] : Sem (List (Str × Value))))
    (bN8 : (parN.posonlyargs ++ parN.args).head? = some arN)
    (bN9 : arN.arg = "self")
    (bN10 : K.lookup cdaN = some ⟨cclN, cddN, .fields vsN, ccsN⟩)
    (bN11 : vsN[2]? = some (.str fileN tfN))
    (bN12 : ((P.main.file : Str) == fileN) = true)
    (bN13 : K.lookup ccN = some ⟨clN, cldN, .cell (some (.ref CN)), cslN⟩)
    (bNC : ∀ L : Addr, ∃ pl : Sem Bool, eval (.Call (.Attribute (.Call (.Name "super" pN0) [] [] pN1) "__init__" pN2) [.JoinedStr [.Constant (.str "bad number: ") jN pN3, .FormattedValue (.Name "word" pN4) (-1) none pN5] pN6] [] pN7) (PySem.W.ksEnv "BadNumber.__init__" exsScope L fN (.ref cdaN) ccN) = (do let ov ← attributeBase (.Call (.Name "super" pN0) [] [] pN1) "__init__" (PySem.W.ksEnv "BadNumber.__init__" exsScope L fN (.ref cdaN) ccN) (eval (.Call (.Name "super" pN0) [] [] pN1) (PySem.W.ksEnv "BadNumber.__init__" exsScope L fN (.ref cdaN) ccN)); standAt pN2.atName; let (fm, first) ← holding [ov] (getMethod ov "__init__" pl); callWith pN7 fm first (backTo pN7 (starEach [.JoinedStr [.Constant (.str "bad number: ") jN pN3, .FormattedValue (.Name "word" pN4) (-1) none pN5] pN6] (PySem.W.ksEnv "BadNumber.__init__" exsScope L fN (.ref cdaN) ccN))) []))
    (bN14 : PySem.W.ks_superIn K CN CN "__init__" = some (some (.builtin "Exception.__init__")))
    (bN16 : PySem.W.subIn K (.ref CN) (.type "Exception") = some true)
    (bN17 : PySem.W.mroIn K CN (.ref CN) = some true)
    (bN18 : PySem.W.findIn K (.ref CN) "__setattr__" = some (some (.builtin "object.__setattr__")))
    (bN19 : PySem.W.takerIn K CN "word" = some none)
    (bN20 : PySem.W.hasDictIn K CN = true)
    (bN21 : PySem.W.subIn K (.ref CN) (.type "BaseException") = some true)
    (bN22 : PySem.W.typeIn K (.ref CN) = some (.type "type"))
    (bN23 : PySem.W.keepIn K (.ref CN) = true)
    (bN25 : PySem.W.findIn K (.ref CN) "__getattribute__" = some (some (.builtin "BaseException.__getattribute__")))
    (bN26 : PySem.W.findIn K (.ref CN) "__getattr__" = some none)
    (bN27 : PySem.W.findIn K (.ref CN) "word" = some none)
    (bM1 : PySem.W.findIn K (.ref CM) "__init__" = some (some (.ref fM)))
    (bM2 : PySem.W.excInitIn K CM excB "Exception.__new__" = true)
    (bM3 : PySem.W.excOver K CM excB = true)
    (bM4 : PySem.W.isFn K (.ref fM) = true)
    (bM5 : K.lookup fM = some ⟨ocM, odM, .func (PySem.W.ksFn "__init__" "BadNames.__init__" parM (excBody "bad names: place " jM pM0 pM1 pM2 pM3 pM4 pM5 pM6 pM7 pM8 pM9 pM10 pM11 pM12) excScope dVM kVM docM pmM anM (.ref cdaM) ctM ccM), slM⟩)
    (bM6 : PySem.W.codeIn K (.ref cdaM) "BadNames.__init__" = true)
    (bM7 : ∀ u v : Value, bindArgs (PySem.W.ksFn "__init__" "BadNames.__init__" parM (excBody "bad names: place " jM pM0 pM1 pM2 pM3 pM4 pM5 pM6 pM7 pM8 pM9 pM10 pM11 pM12) excScope dVM kVM docM pmM anM (.ref cdaM) ctM ccM) ⟨[u, v], []⟩ = (pure [(("self" : Str), u), (("place" : Str), v)] : Sem (List (Str × Value))))
    (bM8 : (parM.posonlyargs ++ parM.args).head? = some arM)
    (bM9 : arM.arg = "self")
    (bM10 : K.lookup cdaM = some ⟨cclM, cddM, .fields vsM, ccsM⟩)
    (bM11 : vsM[2]? = some (.str fileM tfM))
    (bM12 : ((P.main.file : Str) == fileM) = true)
    (bM13 : K.lookup ccM = some ⟨clM, cldM, .cell (some (.ref CM)), cslM⟩)
    (bMC : ∀ L : Addr, ∃ pl : Sem Bool, eval (.Call (.Attribute (.Call (.Name "super" pM0) [] [] pM1) "__init__" pM2) [.JoinedStr [.Constant (.str "bad names: place ") jM pM3, .FormattedValue (.Name "place" pM4) (-1) none pM5] pM6] [] pM7) (PySem.W.ksEnv "BadNames.__init__" excScope L fM (.ref cdaM) ccM) = (do let ov ← attributeBase (.Call (.Name "super" pM0) [] [] pM1) "__init__" (PySem.W.ksEnv "BadNames.__init__" excScope L fM (.ref cdaM) ccM) (eval (.Call (.Name "super" pM0) [] [] pM1) (PySem.W.ksEnv "BadNames.__init__" excScope L fM (.ref cdaM) ccM)); standAt pM2.atName; let (fm, first) ← holding [ov] (getMethod ov "__init__" pl); callWith pM7 fm first (backTo pM7 (starEach [.JoinedStr [.Constant (.str "bad names: place ") jM pM3, .FormattedValue (.Name "place" pM4) (-1) none pM5] pM6] (PySem.W.ksEnv "BadNames.__init__" excScope L fM (.ref cdaM) ccM))) []))
    (bM14 : PySem.W.ks_superIn K CM CM "__init__" = some (some (.builtin "Exception.__init__")))
    (bM16 : PySem.W.subIn K (.ref CM) (.type "Exception") = some true)
    (bM17 : PySem.W.mroIn K CM (.ref CM) = some true)
    (bM18 : PySem.W.findIn K (.ref CM) "__setattr__" = some (some (.builtin "object.__setattr__")))
    (bM19 : PySem.W.takerIn K CM "place" = some none)
    (bM20 : PySem.W.hasDictIn K CM = true)
    (bM21 : PySem.W.subIn K (.ref CM) (.type "BaseException") = some true)
    (bM22 : PySem.W.typeIn K (.ref CM) = some (.type "type"))
    (bM23 : PySem.W.keepIn K (.ref CM) = true)
    (bM25 : PySem.W.findIn K (.ref CM) "__getattribute__" = some (some (.builtin "BaseException.__getattribute__")))
    (bM26 : PySem.W.findIn K (.ref CM) "__getattr__" = some none)
    (bM27 : PySem.W.findIn K (.ref CM) "place" = some none)
    (bF1 : PySem.W.findIn K (.ref CF) "__init__" = some (some (.ref fF)))
    (bF2 : PySem.W.excInitIn K CF excB "Exception.__new__" = true)
    (bF3 : PySem.W.excOver K CF excB = true)
    (bF4 : PySem.W.isFn K (.ref fF) = true)
    (bF5 : K.lookup fF = some ⟨ocF, odF, .func (PySem.W.ksFn "__init__" "BadFamily.__init__" parF (excBody "bad family: place " jF pF0 pF1 pF2 pF3 pF4 pF5 pF6 pF7 pF8 pF9 pF10 pF11 pF12) excScope dVF kVF docF pmF anF (.ref cdaF) ctF ccF), slF⟩)
    (bF6 : PySem.W.codeIn K (.ref cdaF) "BadFamily.__init__" = true)
    (bF7 : ∀ u v : Value, bindArgs (PySem.W.ksFn "__init__" "BadFamily.__init__" parF (excBody "bad family: place " jF pF0 pF1 pF2 pF3 pF4 pF5 pF6 pF7 pF8 pF9 pF10 pF11 pF12) excScope dVF kVF docF pmF anF (.ref cdaF) ctF ccF) ⟨[u, v], []⟩ = (pure [(("self" : Str), u), (("place" : Str), v)] : Sem (List (Str × Value))))
    (bF8 : (parF.posonlyargs ++ parF.args).head? = some arF)
    (bF9 : arF.arg = "self")
    (bF10 : K.lookup cdaF = some ⟨cclF, cddF, .fields vsF, ccsF⟩)
    (bF11 : vsF[2]? = some (.str fileF tfF))
    (bF12 : ((P.main.file : Str) == fileF) = true)
    (bF13 : K.lookup ccF = some ⟨clF, cldF, .cell (some (.ref CF)), cslF⟩)
    (bFC : ∀ L : Addr, ∃ pl : Sem Bool, eval (.Call (.Attribute (.Call (.Name "super" pF0) [] [] pF1) "__init__" pF2) [.JoinedStr [.Constant (.str "bad family: place ") jF pF3, .FormattedValue (.Name "place" pF4) (-1) none pF5] pF6] [] pF7) (PySem.W.ksEnv "BadFamily.__init__" excScope L fF (.ref cdaF) ccF) = (do let ov ← attributeBase (.Call (.Name "super" pF0) [] [] pF1) "__init__" (PySem.W.ksEnv "BadFamily.__init__" excScope L fF (.ref cdaF) ccF) (eval (.Call (.Name "super" pF0) [] [] pF1) (PySem.W.ksEnv "BadFamily.__init__" excScope L fF (.ref cdaF) ccF)); standAt pF2.atName; let (fm, first) ← holding [ov] (getMethod ov "__init__" pl); callWith pF7 fm first (backTo pF7 (starEach [.JoinedStr [.Constant (.str "bad family: place ") jF pF3, .FormattedValue (.Name "place" pF4) (-1) none pF5] pF6] (PySem.W.ksEnv "BadFamily.__init__" excScope L fF (.ref cdaF) ccF))) []))
    (bF14 : PySem.W.ks_superIn K CF CF "__init__" = some (some (.builtin "Exception.__init__")))
    (bF16 : PySem.W.subIn K (.ref CF) (.type "Exception") = some true)
    (bF17 : PySem.W.mroIn K CF (.ref CF) = some true)
    (bF18 : PySem.W.findIn K (.ref CF) "__setattr__" = some (some (.builtin "object.__setattr__")))
    (bF19 : PySem.W.takerIn K CF "place" = some none)
    (bF20 : PySem.W.hasDictIn K CF = true)
    (bF21 : PySem.W.subIn K (.ref CF) (.type "BaseException") = some true)
    (bF22 : PySem.W.typeIn K (.ref CF) = some (.type "type"))
    (bF23 : PySem.W.keepIn K (.ref CF) = true)
    (bF25 : PySem.W.findIn K (.ref CF) "__getattribute__" = some (some (.builtin "BaseException.__getattribute__")))
    (bF26 : PySem.W.findIn K (.ref CF) "__getattr__" = some none)
    (bF27 : PySem.W.findIn K (.ref CF) "place" = some none)
    (nNM : PySem.W.mroIn K CN (.ref CM) = some false)
    (nNF : PySem.W.mroIn K CN (.ref CF) = some false)
    (z_len : PySem.W.nsIn K mainGlobals "len" = some none)
    (z_sum : PySem.W.nsIn K mainGlobals "sum" = some none)
    (z_all : PySem.W.nsIn K mainGlobals "all" = some none)
    (z_any : PySem.W.nsIn K mainGlobals "any" = some none)
    (z_sorted : PySem.W.nsIn K mainGlobals "sorted" = some none)
    (z_tuple : PySem.W.nsIn K mainGlobals "tuple" = some none)
    (z_list : PySem.W.nsIn K mainGlobals "list" = some none)
    (z_int : PySem.W.nsIn K mainGlobals "int" = some none)
    (z_bool : PySem.W.nsIn K mainGlobals "bool" = some none)
    (z_range : PySem.W.nsIn K mainGlobals "range" = some none)
    (z_isinstance : PySem.W.nsIn K mainGlobals "isinstance" = some none)
    (z_min : PySem.W.nsIn K mainGlobals "min" = some none)
    (z_max : PySem.W.nsIn K mainGlobals "max" = some none)
    : ∃ fd : FuncData, (∀ (s : Shared) (v : Value), BindsTo s fd ⟨[v], []⟩ [("_law_script", v)]) ∧ ∀ base : Heap, K.In base → base.Ns mainGlobals mg → FnOk P w K mg base CX0 10 fa fd ["_law_script"] (Pure K p_law) := by
  have e := hfa.symm.trans (PySem.W.mg_of X G a_law)
  cases e
  refine ⟨PySem.W.fnOf "law" "law" (defArgs s_law) (defBody s_law) (defScope s_law) .none kV_law dc_law pm_law an_law cd_law ct_law, fun s v => .of_eq rfl, fun base _ _ => ?_⟩
  have T : Txt mg := ⟨PySem.W.mg_none_of X G z_len, PySem.W.mg_none_of X G z_sum, PySem.W.mg_none_of X G z_all, PySem.W.mg_none_of X G z_any, PySem.W.mg_none_of X G z_sorted, PySem.W.mg_none_of X G z_tuple, PySem.W.mg_none_of X G z_list, PySem.W.mg_none_of X G z_int, PySem.W.mg_none_of X G z_bool, PySem.W.mg_none_of X G z_range, PySem.W.mg_none_of X G z_isinstance, PySem.W.mg_none_of X G z_min, PySem.W.mg_none_of X G z_max⟩
  have cl : Cls K C := ⟨pg, hd, po, sa⟩
  have fc : FamC K mg C := ⟨⟨cl, oc1, oc2, oc3, oc4⟩, nT, nL, PySem.W.mg_of X G aC⟩
  have ni : NotI K C := ⟨hd, tyC⟩
  have hnf := nf
  have hM := PySem.W.mg_of X G aM
  have hT := PySem.W.mg_of X G aT
  have zs := PySem.W.mg_none_of X G zsuper
  have xcB : ExcK K P CB fB "bad set: place " := ⟨bB1, bB2, bB3, bB4, ⟨_, _, _, _, _, _, _, _, _, _, _, _, _, _, _, _, _, _, _, _, _, _, _, _, _, _, _, _, bB5, bB6, bB7, bB8, bB9, ⟨_, _, _, _, _, _, bB10, bB11, bB12⟩, bBC, _, _, _, bB13⟩, bB14, any, bB16, bB17, bB18, bB19, bB20, bB21, bB22, bB23, topsup⟩
  have bc : BadC P K mg CB fB := ⟨xcB, PySem.W.mg_of X G aBx, zs⟩
  have xcN : ExcS K P CN fN "bad number: " := ⟨bN1, bN2, bN3, bN4, ⟨_, _, _, _, _, _, _, _, _, _, _, _, _, _, _, _, _, _, _, _, _, _, _, _, _, _, _, _, bN5, bN6, bN7, bN8, bN9, ⟨_, _, _, _, _, _, bN10, bN11, bN12⟩, bNC, _, _, _, bN13⟩, bN14, any, bN16, bN17, bN18, bN19, bN20, bN21, bN22, bN23, topsup⟩
  have xN : XcS P K mg "BadNumber" "bad number: " CN fN := ⟨xcN, PySem.W.mg_of X G aNx, zs⟩
  have xfN : XfC K CN := ⟨bN25, bN26, bN21, bN20⟩
  have npN := bN27
  have xcM : ExcK K P CM fM "bad names: place " := ⟨bM1, bM2, bM3, bM4, ⟨_, _, _, _, _, _, _, _, _, _, _, _, _, _, _, _, _, _, _, _, _, _, _, _, _, _, _, _, bM5, bM6, bM7, bM8, bM9, ⟨_, _, _, _, _, _, bM10, bM11, bM12⟩, bMC, _, _, _, bM13⟩, bM14, any, bM16, bM17, bM18, bM19, bM20, bM21, bM22, bM23, topsup⟩
  have xM : XcK P K mg "BadNames" "bad names: place " CM fM := ⟨xcM, PySem.W.mg_of X G aMx, zs⟩
  have xfM : XfC K CM := ⟨bM25, bM26, bM21, bM20⟩
  have npM := bM27
  have xcF : ExcK K P CF fF "bad family: place " := ⟨bF1, bF2, bF3, bF4, ⟨_, _, _, _, _, _, _, _, _, _, _, _, _, _, _, _, _, _, _, _, _, _, _, _, _, _, _, _, bF5, bF6, bF7, bF8, bF9, ⟨_, _, _, _, _, _, bF10, bF11, bF12⟩, bFC, _, _, _, bF13⟩, bF14, any, bF16, bF17, bF18, bF19, bF20, bF21, bF22, bF23, topsup⟩
  have xF : XcK P K mg "BadFamily" "bad family: place " CF fF := ⟨xcF, PySem.W.mg_of X G aFx, zs⟩
  have xfF : XfC K CF := ⟨bF25, bF26, bF21, bF20⟩
  have npF := bF27
  have F_mask_of := fun_mk (st := s_mask_of) l_mask_of c_mask_of k_mask_of
  have y_mask_of := F_mask_of.binds (ps := ["things"]) fun _ _ _ _ _ _ us hl => match us, hl with | [_], _ => rfl
  have F_things_of := fun_mk (st := s_things_of) l_things_of c_things_of k_things_of
  have y_things_of := F_things_of.binds (ps := ["mask"]) fun _ _ _ _ _ _ us hl => match us, hl with | [_], _ => rfl
  have F_least_masks := fun_mk (st := s_least_masks) l_least_masks c_least_masks k_least_masks
  have y_least_masks := F_least_masks.binds (ps := ["masks"]) fun _ _ _ _ _ _ us hl => match us, hl with | [_], _ => rfl
  have F_lots_of_masks := fun_mk (st := s_lots_of_masks) l_lots_of_masks c_lots_of_masks k_lots_of_masks
  have y_lots_of_masks := F_lots_of_masks.binds (ps := ["masks"]) fun _ _ _ _ _ _ us hl => match us, hl with | [_], _ => rfl
  have F_least_lots := fun_mk (st := s_least_lots) l_least_lots c_least_lots k_least_lots
  have y_least_lots := F_least_lots.binds (ps := ["lots"]) fun _ _ _ _ _ _ us hl => match us, hl with | [_], _ => rfl
  have F_blocker_lots := fun_mk (st := s_blocker_lots) l_blocker_lots c_blocker_lots k_blocker_lots
  have y_blocker_lots := F_blocker_lots.binds (ps := ["lots"]) fun _ _ _ _ _ _ us hl => match us, hl with | [_], _ => rfl
  have F_law_inside := fun_mk (st := s_law_inside) l_law_inside c_law_inside k_law_inside
  have y_law_inside := F_law_inside.binds (ps := ["_law_one", "_law_other"]) fun _ _ _ _ _ _ us hl => match us, hl with | [_, _], _ => rfl
  have F_law_common := fun_mk (st := s_law_common) l_law_common c_law_common k_law_common
  have y_law_common := F_law_common.binds (ps := ["_law_one", "_law_other"]) fun _ _ _ _ _ _ us hl => match us, hl with | [_, _], _ => rfl
  have F_law_subsets := fun_mk (st := s_law_subsets) l_law_subsets c_law_subsets k_law_subsets
  have y_law_subsets := F_law_subsets.binds (ps := ["_law_size"]) fun _ _ _ _ _ _ us hl => match us, hl with | [_], _ => rfl
  have F_law_least := fun_mk (st := s_law_least) l_law_least c_law_least k_law_least
  have y_law_least := F_law_least.binds (ps := ["_law_lots"]) fun _ _ _ _ _ _ us hl => match us, hl with | [_], _ => rfl
  have F_law_meets := fun_mk (st := s_law_meets) l_law_meets c_law_meets k_law_meets
  have y_law_meets := F_law_meets.binds (ps := ["_law_lots", "_law_those"]) fun _ _ _ _ _ _ us hl => match us, hl with | [_, _], _ => rfl
  have F_law_blocker := fun_mk (st := s_law_blocker) l_law_blocker c_law_blocker k_law_blocker
  have y_law_blocker := F_law_blocker.binds (ps := ["_law_size", "_law_lots"]) fun _ _ _ _ _ _ us hl => match us, hl with | [_, _], _ => rfl
  have F_law_sized := fun_mk (st := s_law_sized) l_law_sized c_law_sized k_law_sized
  have y_law_sized := F_law_sized.binds (ps := ["_law_size", "_law_number"]) fun _ _ _ _ _ _ us hl => match us, hl with | [_, _], _ => rfl
  have F_law_fan := fun_mk (st := s_law_fan) l_law_fan c_law_fan k_law_fan
  have y_law_fan := F_law_fan.binds (ps := ["_law_size"]) fun _ _ _ _ _ _ us hl => match us, hl with | [_], _ => rfl
  have F_law_ring := fun_mk (st := s_law_ring) l_law_ring c_law_ring k_law_ring
  have y_law_ring := F_law_ring.binds (ps := ["_law_size"]) fun _ _ _ _ _ _ us hl => match us, hl with | [_], _ => rfl
  have F_is_integer := fun_mk (st := s_is_integer) l_is_integer c_is_integer k_is_integer
  have y_is_integer := F_is_integer.binds (ps := ["value", "low"]) fun _ _ _ _ _ _ us hl => match us, hl with | [_, _], _ => rfl
  have F_ask_size := fun_mk (st := s_ask_size) l_ask_size c_ask_size k_ask_size
  have y_ask_size := F_ask_size.binds (ps := ["size"]) fun _ _ _ _ _ _ us hl => match us, hl with | [_], _ => rfl
  have F_is_thing := fun_mk (st := s_is_thing) l_is_thing c_is_thing k_is_thing
  have y_is_thing := F_is_thing.binds (ps := ["value", "size"]) fun _ _ _ _ _ _ us hl => match us, hl with | [_, _], _ => rfl
  have F_set_of := fun_mk (st := s_set_of) l_set_of c_set_of k_set_of
  have y_set_of := F_set_of.binds (ps := ["things", "size"]) fun _ _ _ _ _ _ us hl => match us, hl with | [_, _], _ => rfl
  have F_ask_things := fun_mk (st := s_ask_things) l_ask_things c_ask_things k_ask_things
  have y_ask_things := F_ask_things.binds (ps := ["things"]) fun _ _ _ _ _ _ us hl => match us, hl with | [_], _ => rfl
  have F_checked_lot := fun_mk (st := s_checked_lot) l_checked_lot c_checked_lot k_checked_lot
  have y_checked_lot := F_checked_lot.binds (ps := ["lot", "place", "things"]) fun _ _ _ _ _ _ us hl => match us, hl with | [_, _, _], _ => rfl
  have F_Minit := fun_mk (st := s_Family_init) l_Minit c_Minit k_Minit
  have y_Minit := F_Minit.binds (ps := ["self", "things", "lots"]) fun _ _ _ _ _ _ us hl => match us, hl with | [_, _, _], _ => rfl
  have F_Meq := fun_mk (st := s_Family_eq) l_Meq c_Meq k_Meq
  have y_Meq := F_Meq.binds (ps := ["self", "other"]) fun _ _ _ _ _ _ us hl => match us, hl with | [_, _], _ => rfl
  have F_Minvert := fun_mk (st := s_Family_invert) l_Minvert c_Minvert k_Minvert
  have y_Minvert := F_Minvert.binds (ps := ["self"]) fun _ _ _ _ _ _ us hl => match us, hl with | [_], _ => rfl
  have F_Mholds := fun_mk (st := s_Family_holds) l_Mholds c_Mholds k_Mholds
  have y_Mholds := F_Mholds.binds (ps := ["self", "things"]) fun _ _ _ _ _ _ us hl => match us, hl with | [_, _], _ => rfl
  have F_law_pick := fun_mk (st := s_law_pick) l_law_pick c_law_pick k_law_pick
  have y_law_pick := F_law_pick.binds (ps := ["_law_draws_here", "_law_bound"]) fun _ _ _ _ _ _ us hl => match us, hl with | [_, _], _ => rfl
  have F_law_chosen := fun_mk (st := s_law_chosen) l_law_chosen c_law_chosen k_law_chosen
  have y_law_chosen := F_law_chosen.binds (ps := ["_law_draws_here", "_law_pool", "_law_least_here"]) fun _ _ _ _ _ _ us hl => match us, hl with | [_, _, _], _ => rfl
  have F_law_mixed_lots := fun_mk (st := s_law_mixed_lots) l_law_mixed_lots c_law_mixed_lots k_law_mixed_lots
  have y_law_mixed_lots := F_law_mixed_lots.binds (ps := ["_law_draws_here", "_law_size"]) fun _ _ _ _ _ _ us hl => match us, hl with | [_, _], _ => rfl
  have F_law_moved := fun_mk (st := s_law_moved) l_law_moved c_law_moved k_law_moved
  have y_law_moved := F_law_moved.binds (ps := ["_law_draws_here", "_law_size", "_law_lots"]) fun _ _ _ _ _ _ us hl => match us, hl with | [_, _, _], _ => rfl
  have F_law_small := fun_mk (st := s_law_small) l_law_small c_law_small k_law_small
  have y_law_small := F_law_small.binds (ps := ["_law_draws_here"]) fun _ _ _ _ _ _ us hl => match us, hl with | [_], _ => rfl
  have F_law_middle := fun_mk (st := s_law_middle) l_law_middle c_law_middle k_law_middle
  have y_law_middle := F_law_middle.binds (ps := ["_law_draws_here"]) fun _ _ _ _ _ _ us hl => match us, hl with | [_], _ => rfl
  have F_law_any := fun_mk (st := s_law_any) l_law_any c_law_any k_law_any
  have y_law_any := F_law_any.binds (ps := ["_law_draws_here"]) fun _ _ _ _ _ _ us hl => match us, hl with | [_], _ => rfl
  have F_law_draws := fun_mk (st := s_law_draws) l_law_draws c_law_draws k_law_draws
  have y_law_draws := F_law_draws.binds (ps := ["_law_script"]) fun _ _ _ _ _ _ us hl => match us, hl with | [_], _ => rfl
  have F_lots_put := fun_mk (st := s_lots_put) l_lots_put c_lots_put k_lots_put
  have y_lots_put := F_lots_put.binds (ps := ["lots", "shares"]) fun _ _ _ _ _ _ us hl => match us, hl with | [_, _], _ => rfl
  have F_family_list := fun_mk (st := s_family_list) l_family_list c_family_list k_family_list
  have y_family_list := F_family_list.binds (ps := ["families"]) fun _ _ _ _ _ _ us hl => match us, hl with | [_], _ => rfl
  have F_families_for := fun_mk (st := s_families_for) l_families_for c_families_for k_families_for
  have y_families_for := F_families_for.binds (ps := ["family", "families"]) fun _ _ _ _ _ _ us hl => match us, hl with | [_, _], _ => rfl
  have F_starts_of := fun_mk (st := s_starts_of) l_starts_of c_starts_of k_starts_of
  have y_starts_of := F_starts_of.binds (ps := ["families"]) fun _ _ _ _ _ _ us hl => match us, hl with | [_], _ => rfl
  have F_Mcall := fun_mk (st := s_Family_call) l_Mcall c_Mcall k_Mcall
  have y_Mcall := F_Mcall.binds (ps := ["self", "families"]) fun _ _ _ _ _ _ us hl => match us, hl with | [_, _], _ => rfl
  have F_ask_names := fun_mk (st := s_ask_names) l_ask_names c_ask_names k_ask_names
  have y_ask_names := F_ask_names.binds (ps := ["names", "things", "size"]) fun _ _ _ _ _ _ us hl => match us, hl with | [_, _, _], _ => rfl
  have F_merged := fun_mk (st := s_merged) l_merged c_merged k_merged
  have y_merged := F_merged.binds (ps := ["family", "names", "size"]) fun _ _ _ _ _ _ us hl => match us, hl with | [_, _, _], _ => rfl
  have F_renamed := fun_mk (st := s_renamed) l_renamed c_renamed k_renamed
  have y_renamed := F_renamed.binds (ps := ["family", "names"]) fun _ _ _ _ _ _ us hl => match us, hl with | [_, _], _ => rfl
  have F_ask_some := fun_mk (st := s_ask_some) l_ask_some c_ask_some k_ask_some
  have y_ask_some := F_ask_some.binds (ps := ["families"]) fun _ _ _ _ _ _ us hl => match us, hl with | [_], _ => rfl
  have F_beside := fun_mk (st := s_beside) l_beside c_beside k_beside
  have hbd_beside := bind_star0 (B := fun l => bindArgs (PySem.W.fnOf "beside" "beside" (defArgs s_beside) (defBody s_beside) (defScope s_beside) .none kV_beside dc_beside pm_beside an_beside cd_beside ct_beside) ⟨l, []⟩) s0_beside s1_beside
  have F_both := fun_mk (st := s_both) l_both c_both k_both
  have hbd_both := bind_star0 (B := fun l => bindArgs (PySem.W.fnOf "both" "both" (defArgs s_both) (defBody s_both) (defScope s_both) .none kV_both dc_both pm_both an_both cd_both ct_both) ⟨l, []⟩) s0_both s1_both
  have F_ask_between := fun_mk (st := s_ask_between) l_ask_between c_ask_between k_ask_between
  have y_ask_between := F_ask_between.binds (ps := ["value", "low", "high", "word"]) fun _ _ _ _ _ _ us hl => match us, hl with | [_, _, _, _], _ => rfl
  have F_choices_of := fun_mk (st := s_choices_of) l_choices_of c_choices_of k_choices_of
  have y_choices_of := F_choices_of.binds (ps := ["k", "n"]) fun _ _ _ _ _ _ us hl => match us, hl with | [_, _], _ => rfl
  have F_votes := fun_mk (st := s_votes) l_votes c_votes k_votes
  have y_votes := F_votes.binds (ps := ["k", "n"]) fun _ _ _ _ _ _ us hl => match us, hl with | [_, _], _ => rfl
  have F_law_holds := fun_mk (st := s_law_holds) l_law_holds c_law_holds k_law_holds
  have y_law_holds := F_law_holds.binds (ps := ["_law_lots", "_law_those"]) fun _ _ _ _ _ _ us hl => match us, hl with | [_, _], _ => rfl
  have F_law_name_sets := fun_mk (st := s_law_name_sets) l_law_name_sets c_law_name_sets k_law_name_sets
  have y_law_name_sets := F_law_name_sets.binds (ps := ["_law_lots", "_law_names"]) fun _ _ _ _ _ _ us hl => match us, hl with | [_, _], _ => rfl
  have F_law_order := fun_mk (st := s_law_order) l_law_order c_law_order k_law_order
  have y_law_order := F_law_order.binds (ps := ["_law_draws_here", "_law_size"]) fun _ _ _ _ _ _ us hl => match us, hl with | [_, _], _ => rfl
  have F_law_right_merged := fun_mk (st := s_law_right_merged) l_law_right_merged c_law_right_merged k_law_right_merged
  have y_law_right_merged := F_law_right_merged.binds (ps := ["_law_fam", "_law_size", "_law_lots", "_law_names", "_law_wide"]) fun _ _ _ _ _ _ us hl => match us, hl with | [_, _, _, _, _], _ => rfl
  have F_law_names_word := fun_mk (st := s_law_names_word) l_law_names_word c_law_names_word k_law_names_word
  have y_law_names_word := F_law_names_word.binds (ps := ["_law_fam", "_law_names", "_law_wide", "_law_way"]) fun _ _ _ _ _ _ us hl => match us, hl with | [_, _, _, _], _ => rfl
  have F_law_together := fun_mk (st := s_law_together) l_law_together c_law_together k_law_together
  have y_law_together := F_law_together.binds (ps := ["_law_rows"]) fun _ _ _ _ _ _ us hl => match us, hl with | [_], _ => rfl
  have F_law_together_word := fun_mk (st := s_law_together_word) l_law_together_word c_law_together_word k_law_together_word
  have y_law_together_word := F_law_together_word.binds (ps := ["_law_fam", "_law_bad", "_law_way"]) fun _ _ _ _ _ _ us hl => match us, hl with | [_, _, _], _ => rfl
  have F_law_right_together := fun_mk (st := s_law_right_together) l_law_right_together c_law_right_together k_law_right_together
  have y_law_right_together := F_law_right_together.binds (ps := ["_law_draws_here"]) fun _ _ _ _ _ _ us hl => match us, hl with | [_], _ => rfl
  have F_law_wrong_names := fun_mk (st := s_law_wrong_names) l_law_wrong_names c_law_wrong_names k_law_wrong_names
  have y_law_wrong_names := F_law_wrong_names.binds (ps := ["_law_draws_here", "_law_fam", "_law_size"]) fun _ _ _ _ _ _ us hl => match us, hl with | [_, _, _], _ => rfl
  have F_law := fun_mk (st := s_law) l_law c_law k_law
  have y_law := F_law.binds (ps := ["_law_script"]) fun _ _ _ _ _ _ us hl => match us, hl with | [_], _ => rfl
  have o_ok_mask_of := ok_mask_of (P := P) (w := w) (mg := mg) (base := base) F_mask_of T
  have o_ok_things_of := ok_things_of (P := P) (w := w) (mg := mg) (base := base) F_things_of T
  have o_ok_least_masks := ok_least_masks (P := P) (w := w) (mg := mg) (base := base) F_least_masks T
  have d0 : Cl P w K mg base 1 "things_of" (Pure K p_things_of) := ⟨_, _, _, .inl o_ok_things_of, PySem.W.mg_of X G a_things_of, k_things_of, y_things_of⟩
  have o_ok_lots_of_masks := ok_lots_of_masks (P := P) (w := w) (mg := mg) (base := base) F_lots_of_masks T d0
  have d1 : Cl P w K mg base 1 "mask_of" (Pure K p_mask_of) := ⟨_, _, _, .inl o_ok_mask_of, PySem.W.mg_of X G a_mask_of, k_mask_of, y_mask_of⟩
  have d2 : Cl P w K mg base 1 "least_masks" (Fresh K p_least_masks) := ⟨_, _, _, .inl o_ok_least_masks, PySem.W.mg_of X G a_least_masks, k_least_masks, y_least_masks⟩
  have d3 : Cl P w K mg base 2 "lots_of_masks" (Pure K p_lots_of_masks) := ⟨_, _, _, .inl o_ok_lots_of_masks, PySem.W.mg_of X G a_lots_of_masks, k_lots_of_masks, y_lots_of_masks⟩
  have o_ok_least_lots := ok_least_lots (P := P) (w := w) (mg := mg) (base := base) F_least_lots T d1 d2 d3
  have o_ok_blocker_lots := ok_blocker_lots (P := P) (w := w) (mg := mg) (base := base) F_blocker_lots T d1 d3
  have o_ok_law_inside := ok_law_inside (P := P) (w := w) (mg := mg) (base := base) F_law_inside T
  have o_ok_law_common := ok_law_common (P := P) (w := w) (mg := mg) (base := base) F_law_common T
  have o_ok_law_subsets := ok_law_subsets (P := P) (w := w) (mg := mg) (base := base) F_law_subsets T
  have d4 : Cl P w K mg base 1 "_law_inside" (Pure K p_law_inside) := ⟨_, _, _, .inl o_ok_law_inside, PySem.W.mg_of X G a_law_inside, k_law_inside, y_law_inside⟩
  have o_ok_law_least := ok_law_least (P := P) (w := w) (mg := mg) (base := base) F_law_least T d4
  have d5 : Cl P w K mg base 1 "_law_common" (Pure K p_law_common) := ⟨_, _, _, .inl o_ok_law_common, PySem.W.mg_of X G a_law_common, k_law_common, y_law_common⟩
  have o_ok_law_meets := ok_law_meets (P := P) (w := w) (mg := mg) (base := base) F_law_meets T d5
  have d6 : Cl P w K mg base 1 "_law_subsets" (Fresh K p_law_subsets) := ⟨_, _, _, .inl o_ok_law_subsets, PySem.W.mg_of X G a_law_subsets, k_law_subsets, y_law_subsets⟩
  have d7 : Cl P w K mg base 2 "_law_meets" (Pure K p_law_meets) := ⟨_, _, _, .inl o_ok_law_meets, PySem.W.mg_of X G a_law_meets, k_law_meets, y_law_meets⟩
  have o_ok_law_blocker := ok_law_blocker (P := P) (w := w) (mg := mg) (base := base) F_law_blocker T d6 d7
  have o_ok_law_sized := ok_law_sized (P := P) (w := w) (mg := mg) (base := base) F_law_sized T d6
  have o_ok_law_fan := ok_law_fan (P := P) (w := w) (mg := mg) (base := base) F_law_fan T
  have o_ok_law_ring := ok_law_ring (P := P) (w := w) (mg := mg) (base := base) F_law_ring T
  have o_ok_is_integer := ok_is_integer (P := P) (w := w) (mg := mg) (base := base) F_is_integer T
  have d8 : Cl P w K mg base 1 "is_integer" (Pure K p_is_integer) := ⟨_, _, _, .inl o_ok_is_integer, PySem.W.mg_of X G a_is_integer, k_is_integer, y_is_integer⟩
  have o_ok_ask_size := ok_ask_size (P := P) (w := w) (mg := mg) (base := base) F_ask_size T d8
  have o_ok_is_thing := ok_is_thing (P := P) (w := w) (mg := mg) (base := base) F_is_thing T d8
  have d9 : Cl P w K mg base 2 "ask_size" (Pure K p_ask_size) := ⟨_, _, _, .inl o_ok_ask_size, PySem.W.mg_of X G a_ask_size, k_ask_size, y_ask_size⟩
  have d10 : Cl P w K mg base 2 "is_thing" (Pure K p_is_thing) := ⟨_, _, _, .inl o_ok_is_thing, PySem.W.mg_of X G a_is_thing, k_is_thing, y_is_thing⟩
  have o_ok_set_of := ok_set_of (P := P) (w := w) (mg := mg) (base := base) F_set_of T bc d9 d10
  have o_ok_ask_things := ok_ask_things (P := P) (w := w) (mg := mg) (base := base) F_ask_things T hM d8
  have d11 : Cl P w K mg base 3 "set_of" (PureX K p_set_of (q_set_of CB)) := ⟨_, _, _, .inr o_ok_set_of, PySem.W.mg_of X G a_set_of, k_set_of, y_set_of⟩
  have o_ok_checked_lot := ok_checked_lot (P := P) (w := w) (mg := mg) (base := base) F_checked_lot T d11
  have d12 : Cl P w K mg base 2 "ask_things" (Pure K p_ask_things) := ⟨_, _, _, .inl o_ok_ask_things, PySem.W.mg_of X G a_ask_things, k_ask_things, y_ask_things⟩
  have d13 : Cl P w K mg base 4 "checked_lot" (Pure K p_checked_lot) := ⟨_, _, _, .inl o_ok_checked_lot, PySem.W.mg_of X G a_checked_lot, k_checked_lot, y_checked_lot⟩
  have d14 : Cl P w K mg base 3 "least_lots" (Pure K p_least_lots) := ⟨_, _, _, .inl o_ok_least_lots, PySem.W.mg_of X G a_least_lots, k_least_lots, y_least_lots⟩
  have o_ok_init := ok_init (P := P) (w := w) (mg := mg) (base := base) F_Minit T fc d12 d13 d14
  have o_ok_eq := ok_eq (P := P) (w := w) (mg := mg) (base := base) F_Meq T fc
  have d15 : ClI P w K mg base 5 C "Family" (InitP K C p_init) := ⟨_, _, _, o_ok_init, ⟨mk, a_Minit, i_Minit, kc⟩, fc.m, y_Minit⟩
  have d16 : Cl P w K mg base 3 "blocker_lots" (Pure K p_blocker_lots) := ⟨_, _, _, .inl o_ok_blocker_lots, PySem.W.mg_of X G a_blocker_lots, k_blocker_lots, y_blocker_lots⟩
  have o_ok_invert := ok_invert (P := P) (w := w) (mg := mg) (base := base) F_Minvert T fc d15 d16
  have d17 : ClX P w K mg base 3 "set_of" (PureX K p_set_of (q_set_of CB)) := ⟨_, _, _, o_ok_set_of, PySem.W.mg_of X G a_set_of, k_set_of, y_set_of⟩
  have o_ok_holds := ok_holds (P := P) (w := w) (mg := mg) (base := base) F_Mholds T fc d1 d17
  have o_ok_law_pick := ok_law_pick (P := P) (w := w) (mg := mg) (base := base) F_law_pick T
  have d18 : Cl P w K mg base 1 "_law_pick" (PickP K) := ⟨_, _, _, .inl o_ok_law_pick, PySem.W.mg_of X G a_law_pick, k_law_pick, y_law_pick⟩
  have o_ok_law_chosen := ok_law_chosen (P := P) (w := w) (mg := mg) (base := base) F_law_chosen T d18
  have d19 : Cl P w K mg base 2 "_law_least" (Fresh K p_law_least) := ⟨_, _, _, .inl o_ok_law_least, PySem.W.mg_of X G a_law_least, k_law_least, y_law_least⟩
  have o_ok_law_mixed := ok_law_mixed (P := P) (w := w) (mg := mg) (base := base) F_law_mixed_lots T d18 d19
  have o_ok_law_moved := ok_law_moved (P := P) (w := w) (mg := mg) (base := base) F_law_moved T d18
  have d20 : Cl P w K mg base 2 "_law_sized" (Fresh K p_law_sized) := ⟨_, _, _, .inl o_ok_law_sized, PySem.W.mg_of X G a_law_sized, k_law_sized, y_law_sized⟩
  have d21 : Cl P w K mg base 3 "_law_mixed_lots" (DrawP K ok_mix p_mixed) := ⟨_, _, _, .inl o_ok_law_mixed, PySem.W.mg_of X G a_law_mixed_lots, k_law_mixed_lots, y_law_mixed_lots⟩
  have d22 : Cl P w K mg base 1 "_law_fan" (Fresh K p_law_fan) := ⟨_, _, _, .inl o_ok_law_fan, PySem.W.mg_of X G a_law_fan, k_law_fan, y_law_fan⟩
  have d23 : Cl P w K mg base 2 "_law_chosen" (DrawP K ok_ch p_chosen) := ⟨_, _, _, .inl o_ok_law_chosen, PySem.W.mg_of X G a_law_chosen, k_law_chosen, y_law_chosen⟩
  have o_ok_law_small := ok_law_small (P := P) (w := w) (mg := mg) (base := base) F_law_small T d18 d20 d21 d22 d23
  have d24 : Cl P w K mg base 1 "_law_ring" (Fresh K p_law_ring) := ⟨_, _, _, .inl o_ok_law_ring, PySem.W.mg_of X G a_law_ring, k_law_ring, y_law_ring⟩
  have o_ok_law_middle := ok_law_middle (P := P) (w := w) (mg := mg) (base := base) F_law_middle T d18 d20 d21 d22 d24 d23 d19
  have d25 : Cl P w K mg base 4 "_law_small" (DrawP K ok_0 p_fam) := ⟨_, _, _, .inl o_ok_law_small, PySem.W.mg_of X G a_law_small, k_law_small, y_law_small⟩
  have d26 : Cl P w K mg base 4 "_law_middle" (DrawP K ok_0 p_fam) := ⟨_, _, _, .inl o_ok_law_middle, PySem.W.mg_of X G a_law_middle, k_law_middle, y_law_middle⟩
  have d27 : Cl P w K mg base 3 "_law_blocker" (Fresh K p_law_blocker) := ⟨_, _, _, .inl o_ok_law_blocker, PySem.W.mg_of X G a_law_blocker, k_law_blocker, y_law_blocker⟩
  have d28 : Cl P w K mg base 2 "_law_moved" (DrawP K ok_mov p_moved) := ⟨_, _, _, .inl o_ok_law_moved, PySem.W.mg_of X G a_law_moved, k_law_moved, y_law_moved⟩
  have o_ok_law_any := ok_law_any (P := P) (w := w) (mg := mg) (base := base) F_law_any T d18 d25 d26 d27 d28
  have o_ok_law_draws := ok_law_draws (P := P) (w := w) (mg := mg) (base := base) F_law_draws T
  have o_ok_lots_put := ok_lots_put (P := P) (w := w) (mg := mg) (base := base) F_lots_put T
  have o_ok_family_list := ok_family_list (P := P) (w := w) (mg := mg) (base := base) F_family_list T fc ni xF
  have d29 : Cl P w K mg base 2 "family_list" (PureE K (p_flist C) (q_flist C CF)) := ⟨_, _, _, .inr o_ok_family_list, PySem.W.mg_of X G a_family_list, k_family_list, y_family_list⟩
  have o_ok_families_for := ok_families_for (P := P) (w := w) (mg := mg) (base := base) F_families_for T fc d29
  have o_ok_starts_of := ok_starts_of (P := P) (w := w) (mg := mg) (base := base) F_starts_of T fc
  have o_ok_ask_thingsE := ok_ask_thingsE (P := P) (w := w) (mg := mg) (base := base) F_ask_things T hM xN d8
  have o_ok_checked_lotG := ok_checked_lotG (P := P) (w := w) (mg := mg) (base := base) F_checked_lot T d11
  have d30 : Cl P w K mg base 4 "checked_lot" (Pure K p_checkedG) := ⟨_, _, _, .inl o_ok_checked_lotG, PySem.W.mg_of X G a_checked_lot, k_checked_lot, y_checked_lot⟩
  have o_ok_initG := ok_initG (P := P) (w := w) (mg := mg) (base := base) F_Minit T fc d12 d30 d14
  have d31 : Cl P w K mg base 3 "families_for" (Pure K (p_ffor C)) := ⟨_, _, _, .inl o_ok_families_for, PySem.W.mg_of X G a_families_for, k_families_for, y_families_for⟩
  have d32 : ClX P w K mg base 2 "ask_things" (PureE K p_ask_things (q_athings CN)) := ⟨_, _, _, o_ok_ask_thingsE, PySem.W.mg_of X G a_ask_things, k_ask_things, y_ask_things⟩
  have d33 : Cl P w K mg base 1 "starts_of" (Pure K (p_starts C)) := ⟨_, _, _, .inl o_ok_starts_of, PySem.W.mg_of X G a_starts_of, k_starts_of, y_starts_of⟩
  have d34 : Cl P w K mg base 1 "lots_put" (Pure K p_put) := ⟨_, _, _, .inl o_ok_lots_put, PySem.W.mg_of X G a_lots_put, k_lots_put, y_lots_put⟩
  have o_ok_fcall := ok_fcall (P := P) (w := w) (mg := mg) (base := base) F_Mcall T fc d31 d32 d33 d15 d34
  have o_ok_ask_names := ok_ask_names (P := P) (w := w) (mg := mg) (base := base) F_ask_names T xM d10
  have d35 : ClX P w K mg base 3 "ask_names" (PureE K p_anames (q_anames CM)) := ⟨_, _, _, o_ok_ask_names, PySem.W.mg_of X G a_ask_names, k_ask_names, y_ask_names⟩
  have d36 : ClI P w K mg base 5 C "Family" (InitP K C p_initG) := ⟨_, _, _, o_ok_initG, ⟨mk, a_Minit, i_Minit, kc⟩, fc.m, y_Minit⟩
  have o_ok_merged := ok_merged (P := P) (w := w) (mg := mg) (base := base) F_merged T fc hM xN d8 d35 d36
  have o_ok_renamed := ok_renamed (P := P) (w := w) (mg := mg) (base := base) F_renamed T fc xM d35 d36
  have d37 : ClX P w K mg base 2 "family_list" (PureE K (p_flist C) (q_flist C CF)) := ⟨_, _, _, o_ok_family_list, PySem.W.mg_of X G a_family_list, k_family_list, y_family_list⟩
  have o_ok_ask_some := ok_ask_some (P := P) (w := w) (mg := mg) (base := base) F_ask_some T fc xN d37
  have d38 : ClX P w K mg base 3 "ask_some" (PureE K (p_asome C) (q_asome C CN CF)) := ⟨_, _, _, o_ok_ask_some, PySem.W.mg_of X G a_ask_some, k_ask_some, y_ask_some⟩
  have d39 : ClC P w K mg base 7 C (PureE K (p_fcall C) (q_fcall C CN)) := ⟨_, (FnOk.raw o_ok_fcall y_Mcall .nil).imp (fun vs H Q E h => by rw [List.append_nil]; exact h), ⟨a_Mcall, i_Mcall, fn_Mcall⟩⟩
  have o_ok_beside := ok_beside (P := P) (w := w) (mg := mg) (base := base) F_beside T hbd_beside d38 d15 d39
  have o_ok_both := ok_both (P := P) (w := w) (mg := mg) (base := base) F_both T hbd_both d38 d15 d39
  have o_ok_ask_between := ok_ask_between (P := P) (w := w) (mg := mg) (base := base) F_ask_between T d8
  have o_ok_choices_of := ok_choices_of (P := P) (w := w) (mg := mg) (base := base) F_choices_of T
  have d40 : Cl P w K mg base 2 "ask_between" (Pure K p_between) := ⟨_, _, _, .inl o_ok_ask_between, PySem.W.mg_of X G a_ask_between, k_ask_between, y_ask_between⟩
  have d41 : Cl P w K mg base 1 "choices_of" (Fresh K p_choices) := ⟨_, _, _, .inl o_ok_choices_of, PySem.W.mg_of X G a_choices_of, k_choices_of, y_choices_of⟩
  have o_ok_votes := ok_votes (P := P) (w := w) (mg := mg) (base := base) F_votes T hM d40 d41 d15
  have o_ok_law_insideS := ok_law_insideS (P := P) (w := w) (mg := mg) (base := base) F_law_inside T
  have d42 : Cl P w K mg base 1 "_law_inside" (Pure K p_insideS) := ⟨_, _, _, .inl o_ok_law_insideS, PySem.W.mg_of X G a_law_inside, k_law_inside, y_law_inside⟩
  have o_ok_law_holdsS := ok_law_holdsS (P := P) (w := w) (mg := mg) (base := base) F_law_holds T d42
  have o_ok_law_name_sets := ok_law_name_sets (P := P) (w := w) (mg := mg) (base := base) F_law_name_sets T d19
  have o_ok_law_order := ok_law_order (P := P) (w := w) (mg := mg) (base := base) F_law_order T d18
  have d43 : Cl P w K mg base 7 "merged" (PureE K (p_merged C) (q_merged C CN CM)) := ⟨_, _, _, .inr o_ok_merged, PySem.W.mg_of X G a_merged, k_merged, y_merged⟩
  have d44 : Cl P w K mg base 3 "_law_name_sets" (Fresh K p_name_sets) := ⟨_, _, _, .inl o_ok_law_name_sets, PySem.W.mg_of X G a_law_name_sets, k_law_name_sets, y_law_name_sets⟩
  have d45 : ClO P w K mg base 7 C "__invert__" (Pure K (p_invert C)) := ⟨_, _, _, o_ok_invert, a_Minvert, i_Minvert, y_Minvert⟩
  have d46 : ClO P w K mg base 1 C "__eq__" (Pure K (p_eq C)) := ⟨_, _, _, o_ok_eq, a_Meq, i_Meq, y_Meq⟩
  have d47 : ClM P w K mg base 4 C "holds" (PureX K (p_holds C) (q_holds C CB)) := ⟨_, _, _, o_ok_holds, ⟨a_Mholds, i_Mholds, k_Mholds⟩, y_Mholds⟩
  have d48 : Cl P w K mg base 2 "_law_holds" (Pure K p_holdsS) := ⟨_, _, _, .inl o_ok_law_holdsS, PySem.W.mg_of X G a_law_holds, k_law_holds, y_law_holds⟩
  have o_ok_law_right_merged := ok_law_right_merged (P := P) (w := w) (mg := mg) (base := base) F_law_right_merged T fc d43 d44 d45 d46 hnf d6 d47 d48
  have d49 : ClX P w K mg base 7 "merged" (PureE K (p_merged C) (q_merged C CN CM)) := ⟨_, _, _, o_ok_merged, PySem.W.mg_of X G a_merged, k_merged, y_merged⟩
  have d50 : ClX P w K mg base 7 "renamed" (PureE K (p_renamed C) (q_renamed C CM)) := ⟨_, _, _, o_ok_renamed, PySem.W.mg_of X G a_renamed, k_renamed, y_renamed⟩
  have o_ok_law_names_word := ok_law_names_word (P := P) (w := w) (mg := mg) (base := base) F_law_names_word T xM xN hT xfM npM xfN npN nNM d49 d50
  have o_ok_law_small4A := ok_law_small4A (P := P) (w := w) (mg := mg) (base := base) F_law_small T d18 d20 d21 d22 d23
  have o_ok_law_togetherA := ok_law_togetherA (P := P) (w := w) (mg := mg) (base := base) F_law_together T
  have d51 : ClR P w K mg base 8 "beside" (PureE K (fun ds d => p_star C ones [.tup ds] d) (fun ds C' x => q_star C CN CF ones [.tup ds] C' x)) := ⟨_, o_ok_beside, PySem.W.mg_of X G a_beside, k_beside⟩
  have d52 : ClR P w K mg base 8 "both" (PureE K (fun ds d => p_star C whole [.tup ds] d) (fun ds C' x => q_star C CN CF whole [.tup ds] C' x)) := ⟨_, o_ok_both, PySem.W.mg_of X G a_both, k_both⟩
  have o_ok_law_together_word := ok_law_together_word (P := P) (w := w) (mg := mg) (base := base) F_law_together_word T xF xN hT xfF npF xfN npN nNF d15 d51 d52
  have d53 : Cl P w K mg base 4 "_law_small" (DrawA K p_fam4) := ⟨_, _, _, .inl o_ok_law_small4A, PySem.W.mg_of X G a_law_small, k_law_small, y_law_small⟩
  have d54 : Cl P w K mg base 1 "_law_together" (PureA K p_tog) := ⟨_, _, _, .inl o_ok_law_togetherA, PySem.W.mg_of X G a_law_together, k_law_together, y_law_together⟩
  have d55 : Cl P w K mg base 7 "votes" (Pure K (p_votes C)) := ⟨_, _, _, .inl o_ok_votes, PySem.W.mg_of X G a_votes, k_votes, y_votes⟩
  have o_ok_law_right_together := ok_law_right_together (P := P) (w := w) (mg := mg) (base := base) F_law_right_together T fc d18 d53 d54 d15 d51 d52 d46 hnf d39 d55
  have d56 : Cl P w K mg base 8 "_law_names_word" (Pure K (p_nword C CN CM)) := ⟨_, _, _, .inl o_ok_law_names_word, PySem.W.mg_of X G a_law_names_word, k_law_names_word, y_law_names_word⟩
  have o_ok_law_wrong_names := ok_law_wrong_names (P := P) (w := w) (mg := mg) (base := base) F_law_wrong_names T d18 d56
  have d57 : Cl P w K mg base 1 "_law_draws" (FreshN K ok_draws p_draws) := ⟨_, _, _, .inl o_ok_law_draws, PySem.W.mg_of X G a_law_draws, k_law_draws, y_law_draws⟩
  have d58 : Cl P w K mg base 5 "_law_any" (DrawP K ok_0 p_any) := ⟨_, _, _, .inl o_ok_law_any, PySem.W.mg_of X G a_law_any, k_law_any, y_law_any⟩
  have d59 : Cl P w K mg base 8 "_law_right_merged" (Pure K (p_rmerged C)) := ⟨_, _, _, .inl o_ok_law_right_merged, PySem.W.mg_of X G a_law_right_merged, k_law_right_merged, y_law_right_merged⟩
  have d60 : Cl P w K mg base 9 "_law_wrong_names" (DrawP K (ok_wn C) p_true) := ⟨_, _, _, .inl o_ok_law_wrong_names, PySem.W.mg_of X G a_law_wrong_names, k_law_wrong_names, y_law_wrong_names⟩
  have d61 : Cl P w K mg base 2 "_law_order" (DrawP K ok_ord p_order) := ⟨_, _, _, .inl o_ok_law_order, PySem.W.mg_of X G a_law_order, k_law_order, y_law_order⟩
  have d62 : Cl P w K mg base 7 "renamed" (PureE K (p_renamed C) (q_renamed C CM)) := ⟨_, _, _, .inr o_ok_renamed, PySem.W.mg_of X G a_renamed, k_renamed, y_renamed⟩
  have d63 : Cl P w K mg base 9 "_law_right_together" (DrawP K ok_0 p_true) := ⟨_, _, _, .inl o_ok_law_right_together, PySem.W.mg_of X G a_law_right_together, k_law_right_together, y_law_right_together⟩
  have d64 : Cl P w K mg base 9 "_law_together_word" (Pure K (p_tword C)) := ⟨_, _, _, .inl o_ok_law_together_word, PySem.W.mg_of X G a_law_together_word, k_law_together_word, y_law_together_word⟩
  exact ok_law F_law T fc d57 d58 d15 d18 d59 d60 d61 d62 d44 d43 d46 hnf d63 d64
theorem walk {l : PySem.W.OpenLaw} {q : Program} {loose : List Str} {XP : (Str → Option Value) → Heap → Prop} {YP : World → Heap → Prop} {d : DefRec} {K : Params → PySem.W.Frag} (hn : l.most = some 63) (hdf : d.params.defaults = [])
    (hY : ∀ (w : World) (h : Heap), YP w h → (K w.params).In h)
    (F : ∀ (w : World) (mg : Str → Option Value) (fa : Addr) (h : Heap), (K w.params).In h → h.Ns mainGlobals mg → mg d.name = some (.ref fa) →
      ∃ fd : FuncData, (∀ (s : Shared) (u : Value), BindsTo s fd ⟨[u], []⟩ [("_law_script", u)]) ∧ ∀ base : Heap, (K w.params).In base → base.Ns mainGlobals mg → FnOk l.prog w (K w.params) mg base CX0 10 fa fd ["_law_script"] (Pure (K w.params) p_law)) :
    PySem.W.WalkO q loose XP YP l.row.toRowW d [] (fun f vs => PySem.call f vs) :=
  L2.walk_of (n := 63) (k := 10) (x := "_law_script") (CX := fun _ => CX0) (sp := fun w => Pure (K w.params) p_law) hn (by decide) hdf ⟨rfl, by decide, by decide⟩ hY F (fun _ _ a ns hl _ hS => ⟨[.lst (ns.map D.int)], .bl true, .one (.lst hS (isAll_ints ns)), ⟨ns, hl, rfl, rfl⟩, fun v H2 _ h2 => by cases h2; rfl⟩) fun _ _ _ _ _ z => z
end Y
open PySem PySem.W PyProof.Rows
set_option Elab.async false
set_option maxRecDepth 100000
set_option maxHeartbeats 0
open_top hd for PySem.Challenge.rw_shortbynarrow_k07_merged_and_renamed
set_option Elab.async false
set_option autoImplicit false
open PySem PySem.W PyProof.Rows
set_option maxRecDepth 100000
set_option maxHeartbeats 0
theorem PySem.Challenge.cw_shortbynarrow_k07_merged_and_renamed_holds : PySem.Challenge.rw_shortbynarrow_k07_merged_and_renamed.Holds := by
  refine hd ?_
  k_fill
  refine Y.walk (l := PySem.Challenge.rw_shortbynarrow_k07_merged_and_renamed) rfl rfl (fun w h Y => PySem.W.kIn_of Y) ?F
  case F =>
    intro w mg fa h KX G hmg
    refine' Y.all_mk KX G hmg ?aC ?aT ?aM ?aBx ?aNx ?aMx ?aFx ?a_mask_of ?l_mask_of ?c_mask_of ?k_mask_of ?a_things_of ?l_things_of ?c_things_of ?k_things_of ?a_least_masks ?l_least_masks ?c_least_masks ?k_least_masks ?a_lots_of_masks ?l_lots_of_masks ?c_lots_of_masks ?k_lots_of_masks ?a_least_lots ?l_least_lots ?c_least_lots ?k_least_lots ?a_blocker_lots ?l_blocker_lots ?c_blocker_lots ?k_blocker_lots ?a_law_inside ?l_law_inside ?c_law_inside ?k_law_inside ?a_law_common ?l_law_common ?c_law_common ?k_law_common ?a_law_subsets ?l_law_subsets ?c_law_subsets ?k_law_subsets ?a_law_least ?l_law_least ?c_law_least ?k_law_least ?a_law_meets ?l_law_meets ?c_law_meets ?k_law_meets ?a_law_blocker ?l_law_blocker ?c_law_blocker ?k_law_blocker ?a_law_sized ?l_law_sized ?c_law_sized ?k_law_sized ?a_law_fan ?l_law_fan ?c_law_fan ?k_law_fan ?a_law_ring ?l_law_ring ?c_law_ring ?k_law_ring ?a_is_integer ?l_is_integer ?c_is_integer ?k_is_integer ?a_ask_size ?l_ask_size ?c_ask_size ?k_ask_size ?a_is_thing ?l_is_thing ?c_is_thing ?k_is_thing ?a_set_of ?l_set_of ?c_set_of ?k_set_of ?a_ask_things ?l_ask_things ?c_ask_things ?k_ask_things ?a_checked_lot ?l_checked_lot ?c_checked_lot ?k_checked_lot ?a_Minit ?i_Minit ?l_Minit ?c_Minit ?k_Minit ?a_Meq ?i_Meq ?l_Meq ?c_Meq ?k_Meq ?a_Minvert ?i_Minvert ?l_Minvert ?c_Minvert ?k_Minvert ?a_Mholds ?i_Mholds ?l_Mholds ?c_Mholds ?k_Mholds ?a_law_pick ?l_law_pick ?c_law_pick ?k_law_pick ?a_law_chosen ?l_law_chosen ?c_law_chosen ?k_law_chosen ?a_law_mixed_lots ?l_law_mixed_lots ?c_law_mixed_lots ?k_law_mixed_lots ?a_law_moved ?l_law_moved ?c_law_moved ?k_law_moved ?a_law_small ?l_law_small ?c_law_small ?k_law_small ?a_law_middle ?l_law_middle ?c_law_middle ?k_law_middle ?a_law_any ?l_law_any ?c_law_any ?k_law_any ?a_law_draws ?l_law_draws ?c_law_draws ?k_law_draws ?a_lots_put ?l_lots_put ?c_lots_put ?k_lots_put ?a_family_list ?l_family_list ?c_family_list ?k_family_list ?a_families_for ?l_families_for ?c_families_for ?k_families_for ?a_starts_of ?l_starts_of ?c_starts_of ?k_starts_of ?a_Mcall ?i_Mcall ?fn_Mcall ?l_Mcall ?c_Mcall ?k_Mcall ?a_ask_names ?l_ask_names ?c_ask_names ?k_ask_names ?a_merged ?l_merged ?c_merged ?k_merged ?a_renamed ?l_renamed ?c_renamed ?k_renamed ?a_ask_some ?l_ask_some ?c_ask_some ?k_ask_some ?a_beside ?l_beside ?c_beside ?k_beside ?s0_beside ?s1_beside ?a_both ?l_both ?c_both ?k_both ?s0_both ?s1_both ?a_ask_between ?l_ask_between ?c_ask_between ?k_ask_between ?a_choices_of ?l_choices_of ?c_choices_of ?k_choices_of ?a_votes ?l_votes ?c_votes ?k_votes ?a_law_holds ?l_law_holds ?c_law_holds ?k_law_holds ?a_law_name_sets ?l_law_name_sets ?c_law_name_sets ?k_law_name_sets ?a_law_order ?l_law_order ?c_law_order ?k_law_order ?a_law_right_merged ?l_law_right_merged ?c_law_right_merged ?k_law_right_merged ?a_law_names_word ?l_law_names_word ?c_law_names_word ?k_law_names_word ?a_law_together ?l_law_together ?c_law_together ?k_law_together ?a_law_together_word ?l_law_together_word ?c_law_together_word ?k_law_together_word ?a_law_right_together ?l_law_right_together ?c_law_right_together ?k_law_right_together ?a_law_wrong_names ?l_law_wrong_names ?c_law_wrong_names ?k_law_wrong_names ?a_law ?l_law ?c_law ?k_law ?pg ?hd ?po ?sa ?mk ?kc ?nT ?nL ?nf ?tyC ?oc1 ?oc2 ?oc3 ?oc4 ?zsuper ?any ?topsup ?bB1 ?bB2 ?bB3 ?bB4 ?bB5 ?bB6 ?bB7 ?bB8 ?bB9 ?bB10 ?bB11 ?bB12 ?bB13 ?bBC ?bB14 ?bB16 ?bB17 ?bB18 ?bB19 ?bB20 ?bB21 ?bB22 ?bB23 ?bN1 ?bN2 ?bN3 ?bN4 ?bN5 ?bN6 ?bN7 ?bN8 ?bN9 ?bN10 ?bN11 ?bN12 ?bN13 ?bNC ?bN14 ?bN16 ?bN17 ?bN18 ?bN19 ?bN20 ?bN21 ?bN22 ?bN23 ?bN25 ?bN26 ?bN27 ?bM1 ?bM2 ?bM3 ?bM4 ?bM5 ?bM6 ?bM7 ?bM8 ?bM9 ?bM10 ?bM11 ?bM12 ?bM13 ?bMC ?bM14 ?bM16 ?bM17 ?bM18 ?bM19 ?bM20 ?bM21 ?bM22 ?bM23 ?bM25 ?bM26 ?bM27 ?bF1 ?bF2 ?bF3 ?bF4 ?bF5 ?bF6 ?bF7 ?bF8 ?bF9 ?bF10 ?bF11 ?bF12 ?bF13 ?bFC ?bF14 ?bF16 ?bF17 ?bF18 ?bF19 ?bF20 ?bF21 ?bF22 ?bF23 ?bF25 ?bF26 ?bF27 ?nNM ?nNF ?z_len ?z_sum ?z_all ?z_any ?z_sorted ?z_tuple ?z_list ?z_int ?z_bool ?z_range ?z_isinstance ?z_min ?z_max
    (case aC => k_is)
    (case aT => k_is)
    (case aM => k_is)
    (case aBx => k_is)
    (case aNx => k_is)
    (case aMx => k_is)
    (case aFx => k_is)
    (case a_mask_of => k_is)
    (case l_mask_of => k_is)
    (case c_mask_of => k_is)
    (case k_mask_of => k_is)
    (case a_things_of => k_is)
    (case l_things_of => k_is)
    (case c_things_of => k_is)
    (case k_things_of => k_is)
    (case a_least_masks => k_is)
    (case l_least_masks => k_is)
    (case c_least_masks => k_is)
    (case k_least_masks => k_is)
    (case a_lots_of_masks => k_is)
    (case l_lots_of_masks => k_is)
    (case c_lots_of_masks => k_is)
    (case k_lots_of_masks => k_is)
    (case a_least_lots => k_is)
    (case l_least_lots => k_is)
    (case c_least_lots => k_is)
    (case k_least_lots => k_is)
    (case a_blocker_lots => k_is)
    (case l_blocker_lots => k_is)
    (case c_blocker_lots => k_is)
    (case k_blocker_lots => k_is)
    (case a_law_inside => k_is)
    (case l_law_inside => k_is)
    (case c_law_inside => k_is)
    (case k_law_inside => k_is)
    (case a_law_common => k_is)
    (case l_law_common => k_is)
    (case c_law_common => k_is)
    (case k_law_common => k_is)
    (case a_law_subsets => k_is)
    (case l_law_subsets => k_is)
    (case c_law_subsets => k_is)
    (case k_law_subsets => k_is)
    (case a_law_least => k_is)
    (case l_law_least => k_is)
    (case c_law_least => k_is)
    (case k_law_least => k_is)
    (case a_law_meets => k_is)
    (case l_law_meets => k_is)
    (case c_law_meets => k_is)
    (case k_law_meets => k_is)
    (case a_law_blocker => k_is)
    (case l_law_blocker => k_is)
    (case c_law_blocker => k_is)
    (case k_law_blocker => k_is)
    (case a_law_sized => k_is)
    (case l_law_sized => k_is)
    (case c_law_sized => k_is)
    (case k_law_sized => k_is)
    (case a_law_fan => k_is)
    (case l_law_fan => k_is)
    (case c_law_fan => k_is)
    (case k_law_fan => k_is)
    (case a_law_ring => k_is)
    (case l_law_ring => k_is)
    (case c_law_ring => k_is)
    (case k_law_ring => k_is)
    (case a_is_integer => k_is)
    (case l_is_integer => k_is)
    (case c_is_integer => k_is)
    (case k_is_integer => k_is)
    (case a_ask_size => k_is)
    (case l_ask_size => k_is)
    (case c_ask_size => k_is)
    (case k_ask_size => k_is)
    (case a_is_thing => k_is)
    (case l_is_thing => k_is)
    (case c_is_thing => k_is)
    (case k_is_thing => k_is)
    (case a_set_of => k_is)
    (case l_set_of => k_is)
    (case c_set_of => k_is)
    (case k_set_of => k_is)
    (case a_ask_things => k_is)
    (case l_ask_things => k_is)
    (case c_ask_things => k_is)
    (case k_ask_things => k_is)
    (case a_checked_lot => k_is)
    (case l_checked_lot => k_is)
    (case c_checked_lot => k_is)
    (case k_checked_lot => k_is)
    (case a_Minit => k_is)
    (case i_Minit => k_is)
    (case l_Minit => k_is)
    (case c_Minit => k_is)
    (case k_Minit => k_is)
    (case a_Meq => k_is)
    (case i_Meq => k_is)
    (case l_Meq => k_is)
    (case c_Meq => k_is)
    (case k_Meq => k_is)
    (case a_Minvert => k_is)
    (case i_Minvert => k_is)
    (case l_Minvert => k_is)
    (case c_Minvert => k_is)
    (case k_Minvert => k_is)
    (case a_Mholds => k_is)
    (case i_Mholds => k_is)
    (case l_Mholds => k_is)
    (case c_Mholds => k_is)
    (case k_Mholds => k_is)
    (case a_law_pick => k_is)
    (case l_law_pick => k_is)
    (case c_law_pick => k_is)
    (case k_law_pick => k_is)
    (case a_law_chosen => k_is)
    (case l_law_chosen => k_is)
    (case c_law_chosen => k_is)
    (case k_law_chosen => k_is)
    (case a_law_mixed_lots => k_is)
    (case l_law_mixed_lots => k_is)
    (case c_law_mixed_lots => k_is)
    (case k_law_mixed_lots => k_is)
    (case a_law_moved => k_is)
    (case l_law_moved => k_is)
    (case c_law_moved => k_is)
    (case k_law_moved => k_is)
    (case a_law_small => k_is)
    (case l_law_small => k_is)
    (case c_law_small => k_is)
    (case k_law_small => k_is)
    (case a_law_middle => k_is)
    (case l_law_middle => k_is)
    (case c_law_middle => k_is)
    (case k_law_middle => k_is)
    (case a_law_any => k_is)
    (case l_law_any => k_is)
    (case c_law_any => k_is)
    (case k_law_any => k_is)
    (case a_law_draws => k_is)
    (case l_law_draws => k_is)
    (case c_law_draws => k_is)
    (case k_law_draws => k_is)
    (case a_lots_put => k_is)
    (case l_lots_put => k_is)
    (case c_lots_put => k_is)
    (case k_lots_put => k_is)
    (case a_family_list => k_is)
    (case l_family_list => k_is)
    (case c_family_list => k_is)
    (case k_family_list => k_is)
    (case a_families_for => k_is)
    (case l_families_for => k_is)
    (case c_families_for => k_is)
    (case k_families_for => k_is)
    (case a_starts_of => k_is)
    (case l_starts_of => k_is)
    (case c_starts_of => k_is)
    (case k_starts_of => k_is)
    (case a_Mcall => k_is)
    (case i_Mcall => k_is)
    (case fn_Mcall => k_is)
    (case l_Mcall => k_is)
    (case c_Mcall => k_is)
    (case k_Mcall => k_is)
    (case a_ask_names => k_is)
    (case l_ask_names => k_is)
    (case c_ask_names => k_is)
    (case k_ask_names => k_is)
    (case a_merged => k_is)
    (case l_merged => k_is)
    (case c_merged => k_is)
    (case k_merged => k_is)
    (case a_renamed => k_is)
    (case l_renamed => k_is)
    (case c_renamed => k_is)
    (case k_renamed => k_is)
    (case a_ask_some => k_is)
    (case l_ask_some => k_is)
    (case c_ask_some => k_is)
    (case k_ask_some => k_is)
    (case a_beside => k_is)
    (case l_beside => k_is)
    (case c_beside => k_is)
    (case k_beside => k_is)
    (case s0_beside => rfl)
    (case s1_beside => (intro r rs; rfl))
    (case a_both => k_is)
    (case l_both => k_is)
    (case c_both => k_is)
    (case k_both => k_is)
    (case s0_both => rfl)
    (case s1_both => (intro r rs; rfl))
    (case a_ask_between => k_is)
    (case l_ask_between => k_is)
    (case c_ask_between => k_is)
    (case k_ask_between => k_is)
    (case a_choices_of => k_is)
    (case l_choices_of => k_is)
    (case c_choices_of => k_is)
    (case k_choices_of => k_is)
    (case a_votes => k_is)
    (case l_votes => k_is)
    (case c_votes => k_is)
    (case k_votes => k_is)
    (case a_law_holds => k_is)
    (case l_law_holds => k_is)
    (case c_law_holds => k_is)
    (case k_law_holds => k_is)
    (case a_law_name_sets => k_is)
    (case l_law_name_sets => k_is)
    (case c_law_name_sets => k_is)
    (case k_law_name_sets => k_is)
    (case a_law_order => k_is)
    (case l_law_order => k_is)
    (case c_law_order => k_is)
    (case k_law_order => k_is)
    (case a_law_right_merged => k_is)
    (case l_law_right_merged => k_is)
    (case c_law_right_merged => k_is)
    (case k_law_right_merged => k_is)
    (case a_law_names_word => k_is)
    (case l_law_names_word => k_is)
    (case c_law_names_word => k_is)
    (case k_law_names_word => k_is)
    (case a_law_together => k_is)
    (case l_law_together => k_is)
    (case c_law_together => k_is)
    (case k_law_together => k_is)
    (case a_law_together_word => k_is)
    (case l_law_together_word => k_is)
    (case c_law_together_word => k_is)
    (case k_law_together_word => k_is)
    (case a_law_right_together => k_is)
    (case l_law_right_together => k_is)
    (case c_law_right_together => k_is)
    (case k_law_right_together => k_is)
    (case a_law_wrong_names => k_is)
    (case l_law_wrong_names => k_is)
    (case c_law_wrong_names => k_is)
    (case k_law_wrong_names => k_is)
    (case a_law => k_is)
    (case l_law => k_is)
    (case c_law => k_is)
    (case k_law => k_is)
    (case pg => k_is)
    (case hd => k_is)
    (case po => k_is)
    (case sa => k_is)
    (case mk => k_is)
    (case kc => k_is)
    (case nT => k_is)
    (case nL => k_is)
    (case nf => k_is)
    (case tyC => k_is)
    (case oc1 => k_is)
    (case oc2 => k_is)
    (case oc3 => k_is)
    (case oc4 => k_is)
    (case zsuper => k_is)
    (case any => k_is)
    (case topsup => (first | rfl | decide +kernel))
    (case bB1 => k_is)
    (case bB2 => kx_is)
    (case bB3 => kx_is)
    (case bB4 => k_is)
    (case bB5 => k_is)
    (case bB6 => k_is)
    (case bB7 => (intro u v; rfl))
    (case bB8 => rfl)
    (case bB9 => rfl)
    (case bB10 => k_is)
    (case bB11 => rfl)
    (case bB12 => (first | rfl | decide +kernel))
    (case bB13 => k_is)
    (case bBC => (intro L; exact ⟨_, rfl⟩))
    (case bB14 => ks_is)
    (case bB16 => k_is)
    (case bB17 => k_is)
    (case bB18 => k_is)
    (case bB19 => k_is)
    (case bB20 => k_is)
    (case bB21 => k_is)
    (case bB22 => k_is)
    (case bB23 => k_is)
    (case bN1 => k_is)
    (case bN2 => kx_is)
    (case bN3 => kx_is)
    (case bN4 => k_is)
    (case bN5 => k_is)
    (case bN6 => k_is)
    (case bN7 => (intro u v; rfl))
    (case bN8 => rfl)
    (case bN9 => rfl)
    (case bN10 => k_is)
    (case bN11 => rfl)
    (case bN12 => (first | rfl | decide +kernel))
    (case bN13 => k_is)
    (case bNC => (intro L; exact ⟨_, rfl⟩))
    (case bN14 => ks_is)
    (case bN16 => k_is)
    (case bN17 => k_is)
    (case bN18 => k_is)
    (case bN19 => k_is)
    (case bN20 => k_is)
    (case bN21 => k_is)
    (case bN22 => k_is)
    (case bN23 => k_is)
    (case bN25 => k_is)
    (case bN26 => k_is)
    (case bN27 => k_is)
    (case bM1 => k_is)
    (case bM2 => kx_is)
    (case bM3 => kx_is)
    (case bM4 => k_is)
    (case bM5 => k_is)
    (case bM6 => k_is)
    (case bM7 => (intro u v; rfl))
    (case bM8 => rfl)
    (case bM9 => rfl)
    (case bM10 => k_is)
    (case bM11 => rfl)
    (case bM12 => (first | rfl | decide +kernel))
    (case bM13 => k_is)
    (case bMC => (intro L; exact ⟨_, rfl⟩))
    (case bM14 => ks_is)
    (case bM16 => k_is)
    (case bM17 => k_is)
    (case bM18 => k_is)
    (case bM19 => k_is)
    (case bM20 => k_is)
    (case bM21 => k_is)
    (case bM22 => k_is)
    (case bM23 => k_is)
    (case bM25 => k_is)
    (case bM26 => k_is)
    (case bM27 => k_is)
    (case bF1 => k_is)
    (case bF2 => kx_is)
    (case bF3 => kx_is)
    (case bF4 => k_is)
    (case bF5 => k_is)
    (case bF6 => k_is)
    (case bF7 => (intro u v; rfl))
    (case bF8 => rfl)
    (case bF9 => rfl)
    (case bF10 => k_is)
    (case bF11 => rfl)
    (case bF12 => (first | rfl | decide +kernel))
    (case bF13 => k_is)
    (case bFC => (intro L; exact ⟨_, rfl⟩))
    (case bF14 => ks_is)
    (case bF16 => k_is)
    (case bF17 => k_is)
    (case bF18 => k_is)
    (case bF19 => k_is)
    (case bF20 => k_is)
    (case bF21 => k_is)
    (case bF22 => k_is)
    (case bF23 => k_is)
    (case bF25 => k_is)
    (case bF26 => k_is)
    (case bF27 => k_is)
    (case nNM => k_is)
    (case nNF => k_is)
    (case z_len => k_is)
    (case z_sum => k_is)
    (case z_all => k_is)
    (case z_any => k_is)
    (case z_sorted => k_is)
    (case z_tuple => k_is)
    (case z_list => k_is)
    (case z_int => k_is)
    (case z_bool => k_is)
    (case z_range => k_is)
    (case z_isinstance => k_is)
    (case z_min => k_is)
    (case z_max => k_is)
