import PyProof.Rows.All
import Wide.All
import OpenK.AllK
import Wide.FinOn
import HandS.ForMost
import HandS.ForExc
import HandS.Deep
import HandS.WideBits
import HandS.SortInts
import HandS.Wide
import KE.SortData
import HandS.TupAny
import HandS.IsInst
import HandS.Codes
import HandS.OwnEq
import KE.OsArith
import HandS.Conv
import HandS.FStr
import HandS.ExcInit
import HandS.ExcField
import KE.KExcLine
import HandS.SlotsOwn
import HandS.TryOnly
import HandS.WordsExc
import HandS.Steps
import HandS.GenList
import HandS.GenYield
import HandS.Style
import PySem.Challenge.RW_shortbynarrow_k01_a_set_or_its_rest
set_option autoImplicit false
/-! Plain mathematics: lists in a strict order, lots, transversals. -/
namespace KM

/-- two lists in the same strict order with the same members are one -/
theorem ext_of_pairwise {α : Type} {r : α → α → Prop} (irr : ∀ a, ¬ r a a) (asym : ∀ a b, r a b → ¬ r b a) :
    ∀ {l m : List α}, l.Pairwise r → m.Pairwise r → (∀ x, x ∈ l ↔ x ∈ m) → l = m
  | [], [], _, _, _ => rfl
  | [], b :: m, _, _, h => absurd ((h b).mpr List.mem_cons_self) (by simp)
  | a :: l, [], _, _, h => absurd ((h a).mp List.mem_cons_self) (by simp)
  | a :: l, b :: m, hl, hm, h => by
    have hl' := List.pairwise_cons.mp hl
    have hm' := List.pairwise_cons.mp hm
    have e : a = b := by
      rcases List.mem_cons.mp ((h a).mp List.mem_cons_self) with e | ha
      · exact e
      · rcases List.mem_cons.mp ((h b).mpr List.mem_cons_self) with e | hb
        · exact e.symm
        · exact absurd (hm'.1 a ha) (asym _ _ (hl'.1 b hb))
    subst e
    congr 1
    refine ext_of_pairwise irr asym hl'.2 hm'.2 fun x => ⟨fun hx => ?_, fun hx => ?_⟩
    · rcases List.mem_cons.mp ((h x).mp (List.mem_cons_of_mem _ hx)) with e | hx'
      · subst e; exact absurd (hl'.1 _ hx) (irr _)
      · exact hx'
    · rcases List.mem_cons.mp ((h x).mpr (List.mem_cons_of_mem _ hx)) with e | hx'
      · subst e; exact absurd (hm'.1 _ hx) (irr _)
      · exact hx'

abbrev T := List Nat
abbrev Asc (l : T) : Prop := l.Pairwise (· < ·)
theorem asc_ext {l m : T} (a : Asc l) (b : Asc m) (h : ∀ x, x ∈ l ↔ x ∈ m) : l = m :=
  ext_of_pairwise (fun a => Nat.lt_irrefl a) (fun _ _ h => Nat.not_lt_of_gt h) a b h

/-! ### the order of tuples -/
theorem leT_total (a b : T) : (decide (a ≤ b) || decide (b ≤ a)) = true := by
  rcases List.le_total a b with h | h <;> simp [h]
theorem leT_trans (a b c : T) : decide (a ≤ b) = true → decide (b ≤ c) = true → decide (a ≤ c) = true := by
  intro h1 h2
  exact decide_eq_true (List.le_trans (of_decide_eq_true h1) (of_decide_eq_true h2))
/-- sorted(..) -/
def srt (l : List T) : List T := l.mergeSort (fun a b => decide (a ≤ b))
theorem srt_perm (l : List T) : (srt l).Perm l := List.mergeSort_perm _ _
theorem srt_mem {l : List T} {x : T} : x ∈ srt l ↔ x ∈ l := (srt_perm l).mem_iff
theorem srt_len (l : List T) : (srt l).length = l.length := (srt_perm l).length_eq
theorem srt_le (l : List T) : (srt l).Pairwise (· ≤ ·) := by
  have h := List.pairwise_mergeSort (le := fun a b : T => decide (a ≤ b)) leT_trans leT_total l
  exact h.imp fun h => of_decide_eq_true h
theorem srt_lt {l : List T} (hn : l.Nodup) : (srt l).Pairwise (· < ·) := by
  have h1 := srt_le l
  have h2 : (srt l).Nodup := (srt_perm l).nodup_iff.mpr hn
  refine (List.Pairwise.and h1 h2).imp ?_
  rintro a b ⟨h, hne⟩
  rcases List.le_iff_lt_or_eq.mp h with h | h
  · exact h
  · exact absurd h hne
theorem ltT_ext {l m : List T} (a : l.Pairwise (· < ·)) (b : m.Pairwise (· < ·)) (h : ∀ x, x ∈ l ↔ x ∈ m) : l = m :=
  ext_of_pairwise (fun a => List.lt_irrefl a) (fun _ _ h => List.lt_asymm h) a b h
theorem srt_id {l : List T} (h : l.Pairwise (· < ·)) : srt l = l := by
  have hn : l.Nodup := h.imp fun {a b} hab e => by subst e; exact List.lt_irrefl _ hab
  exact ltT_ext (srt_lt hn) h fun x => srt_mem
theorem nodup_of_lt {l : List T} (h : l.Pairwise (· < ·)) : l.Nodup := h.imp fun {a b} hab e => by subst e; exact List.lt_irrefl _ hab
/-- two lists without doubles, with the same members, are sorted alike -/
theorem srt_ext {l m : List T} (a : l.Nodup) (b : m.Nodup) (h : ∀ x, x ∈ l ↔ x ∈ m) : srt l = srt m :=
  ltT_ext (srt_lt a) (srt_lt b) fun x => by rw [srt_mem, srt_mem, h]
end KM
set_option autoImplicit false
/-! Sets as bits: what masks say, the least ones, and the sets that meet all lots. -/
namespace KM

theorem and_zero_iff {a b : Nat} : a &&& b = 0 ↔ ∀ i, a.testBit i = true → b.testBit i = false := by
  constructor
  · intro h i hi
    have := congrArg (fun n => n.testBit i) h
    simpa [hi] using this
  · intro h
    apply Nat.eq_of_testBit_eq
    intro i
    cases ha : a.testBit i
    · simp [ha]
    · simp [ha, h i ha]
theorem and_left_iff {a b : Nat} : a &&& b = a ↔ ∀ i, a.testBit i = true → b.testBit i = true := by
  constructor
  · intro h i hi
    have := congrArg (fun n => n.testBit i) h
    simpa [hi] using this
  · intro h
    apply Nat.eq_of_testBit_eq
    intro i
    cases ha : a.testBit i
    · simp [ha]
    · simp [ha, h i ha]
/-- a within b -/
abbrev Sb (a b : Nat) : Prop := ∀ i, a.testBit i = true → b.testBit i = true
theorem Sb.refl (a : Nat) : Sb a a := fun _ h => h
theorem Sb.trans {a b c : Nat} (h : Sb a b) (k : Sb b c) : Sb a c := fun i x => k i (h i x)
theorem Sb.antisymm {a b : Nat} (h : Sb a b) (k : Sb b a) : a = b := by
  apply Nat.eq_of_testBit_eq
  intro i
  have h1 := h i
  have h2 := k i
  cases ha : a.testBit i <;> cases hb : b.testBit i <;> simp_all
theorem Sb.le {a b : Nat} (h : Sb a b) : a ≤ b := by
  have e : a &&& b = a := and_left_iff.mpr h
  rw [← e]
  exact Nat.and_le_right

def maskOf (l : T) : Nat := (l.map (fun e => 2 ^ e)).sum
theorem mask_or : ∀ {l : T}, Asc l → ∀ k, (∀ x ∈ l, k ≤ x) → (∀ i, (maskOf l).testBit i = decide (i ∈ l)) ∧ 2 ^ k ∣ maskOf l
  | [], _, k, _ => ⟨fun i => by simp [maskOf], by simp [maskOf]⟩
  | a :: l, h, k, hk => by
    have h' := List.pairwise_cons.mp h
    obtain ⟨ih, dv⟩ := mask_or h'.2 (a + 1) fun x hx => h'.1 x hx
    obtain ⟨q, hq⟩ := dv
    have e1 : maskOf (a :: l) = 2 ^ a + maskOf l := by simp [maskOf]
    have e2 : maskOf (a :: l) = maskOf l ||| 2 ^ a := by
      rw [e1, hq, Nat.add_comm, Nat.two_pow_add_eq_or_of_lt (Nat.pow_lt_pow_right (by omega) (by omega))]
    refine ⟨fun i => ?_, ?_⟩
    · rw [e2, Nat.testBit_or, ih, Nat.testBit_two_pow]
      by_cases hi : i = a
      · subst hi; simp
      · have : a ≠ i := fun z => hi z.symm
        simp [hi, this]
    · rw [e1, hq]
      have hka : k ≤ a := hk a List.mem_cons_self
      refine Nat.dvd_add (Nat.pow_dvd_pow 2 hka) (Nat.dvd_trans (Nat.pow_dvd_pow 2 (by omega : k ≤ a + 1)) (Nat.dvd_mul_right _ _))
theorem mask_bit {l : T} (h : Asc l) (i : Nat) : (maskOf l).testBit i = decide (i ∈ l) := (mask_or h 0 fun _ _ => Nat.zero_le _).1 i
theorem mask_bit_iff {l : T} (h : Asc l) {i : Nat} : (maskOf l).testBit i = true ↔ i ∈ l := by rw [mask_bit h]; simp

def bitLen (m : Nat) : Nat := if m = 0 then 0 else m.log2 + 1
def thingsOf (m : Nat) : T := (List.range (bitLen m)).filter (fun e => m.testBit e)
theorem range_asc (n : Nat) : Asc (List.range n) := List.pairwise_lt_range
theorem things_asc (m : Nat) : Asc (thingsOf m) := (range_asc _).filter _
theorem mem_things {m i : Nat} : i ∈ thingsOf m ↔ m.testBit i = true := by
  unfold thingsOf
  rw [List.mem_filter, List.mem_range]
  refine ⟨fun h => h.2, fun h => ⟨?_, h⟩⟩
  have hm : 2 ^ i ≤ m := Nat.ge_two_pow_of_testBit h
  have h0 : m ≠ 0 := by
    have := Nat.two_pow_pos i
    omega
  unfold bitLen
  rw [if_neg h0]
  have := (Nat.le_log2 h0).mpr hm
  omega
theorem things_mask {l : T} (h : Asc l) : thingsOf (maskOf l) = l := asc_ext (things_asc _) h fun x => by rw [mem_things, mask_bit_iff h]
theorem mask_things (m : Nat) : maskOf (thingsOf m) = m := by
  apply Nat.eq_of_testBit_eq
  intro i
  have h := @mem_things m i
  rw [mask_bit (things_asc m)]
  cases hb : m.testBit i <;> simp_all
theorem things_inj {a b : Nat} (h : thingsOf a = thingsOf b) : a = b := by rw [← mask_things a, ← mask_things b, h]
theorem mask_inj {a b : T} (ha : Asc a) (hb : Asc b) (h : maskOf a = maskOf b) : a = b := by rw [← things_mask ha, ← things_mask hb, h]

/-! ### the least masks -/
def sortN (l : List Nat) : List Nat := l.mergeSort (fun a b => decide (a ≤ b))
theorem sortN_perm (l : List Nat) : (sortN l).Perm l := List.mergeSort_perm _ _
def leastStep (kept : List Nat) (m : Nat) : List Nat := if kept.all (fun o => o &&& m != o) then kept ++ [m] else kept
def leastMasks (ms : List Nat) : List Nat := (sortN ms).foldl leastStep []
theorem keepLeast_all : ∀ (r kept : List Nat), (kept ++ r).Pairwise (fun a b => ¬ Sb a b) → r.foldl leastStep kept = kept ++ r
  | [], kept, _ => by simp
  | m :: r, kept, h => by
    have hk : kept.all (fun o => o &&& m != o) = true := by
      rw [List.all_eq_true]
      intro o ho
      have := (List.pairwise_append.mp h).2.2 o ho m List.mem_cons_self
      simp only [bne_iff_ne, ne_eq]
      exact fun e => this (and_left_iff.mp e)
    rw [List.foldl_cons]
    have e : leastStep kept m = kept ++ [m] := by unfold leastStep; rw [if_pos hk]
    rw [e, keepLeast_all r (kept ++ [m]) (by simpa using h)]
    simp
theorem fold_take {α β : Type} (f : β → α → β) (b : β) {l : List α} {i : Nat} {x : α} (h : l[i]? = some x) : (l.take (i + 1)).foldl f b = f ((l.take i).foldl f b) x := by
  rw [List.take_add_one, h, List.foldl_append]
  rfl
def lotsOfMasks (ms : List Nat) : List T := srt (ms.map thingsOf)
def leastLots (lots : List T) : List T := lotsOfMasks (leastMasks (lots.map maskOf))
/-- good lots: none within another one, each ascending, in order -/
structure Good (lots : List T) : Prop where
  asc : ∀ l ∈ lots, Asc l
  lt : lots.Pairwise (· < ·)
  anti : ∀ l ∈ lots, ∀ m ∈ lots, (∀ x ∈ l, x ∈ m) → l = m
theorem least_good {lots : List T} (g : Good lots) : leastLots lots = lots := by
  have hp := sortN_perm (lots.map maskOf)
  have nd : (lots.map maskOf).Nodup := by
    refine List.pairwise_map.mpr ?_
    refine (List.Pairwise.and_mem.mp (nodup_of_lt g.lt)).imp ?_
    rintro a b ⟨ha, hb, hne⟩ e
    exact hne (mask_inj (g.asc a ha) (g.asc b hb) e)
  have nds : (sortN (lots.map maskOf)).Nodup := hp.nodup_iff.mpr nd
  have hk : leastMasks (lots.map maskOf) = sortN (lots.map maskOf) := by
    refine (keepLeast_all _ [] ?_).trans (by simp)
    refine (List.Pairwise.and_mem.mp nds).imp ?_
    rintro a b ⟨ha, hb, hne⟩ hs
    obtain ⟨l, hl, rfl⟩ := List.mem_map.mp (hp.mem_iff.mp ha)
    obtain ⟨m, hm, rfl⟩ := List.mem_map.mp (hp.mem_iff.mp hb)
    have : l = m := g.anti l hl m hm fun x hx => (mask_bit_iff (g.asc m hm)).mp (hs x ((mask_bit_iff (g.asc l hl)).mpr hx))
    exact hne (by rw [this])
  unfold leastLots lotsOfMasks
  rw [hk]
  have hid : (lots.map maskOf).map thingsOf = lots := by
    rw [List.map_map]
    have : lots.map (thingsOf ∘ maskOf) = lots.map id := List.map_congr_left fun l hl => things_mask (g.asc l hl)
    rw [this, List.map_id]
  have hperm : ((sortN (lots.map maskOf)).map thingsOf).Perm lots := by
    have := hp.map thingsOf
    rwa [hid] at this
  have h1 : srt ((sortN (lots.map maskOf)).map thingsOf) = srt lots := srt_ext (hperm.nodup_iff.mpr (nodup_of_lt g.lt)) (nodup_of_lt g.lt) fun x => hperm.mem_iff
  rw [h1, srt_id g.lt]
/-! ### the sets that meet all lots -/
def grownAt (met missed : List Nat) (mask : Nat) (g : List Nat) (e : Nat) : List Nat :=
  missed.foldl (fun g one => if (met.filter (fun t => t &&& mask == 2 ^ e)).all (fun two => two &&& (one ||| 2 ^ e) != two) then g ++ [one ||| 2 ^ e] else g) g
def blkStep (kept : List Nat) (lot : T) : List Nat :=
  kept.filter (fun one => one &&& maskOf lot != 0) ++ lot.foldl (grownAt (kept.filter (fun one => one &&& maskOf lot != 0)) (kept.filter (fun one => one &&& maskOf lot == 0)) (maskOf lot)) []
def blockerLots (lots : List T) : List T := lotsOfMasks (lots.foldl blkStep [0])
end KM
set_option autoImplicit false
/-! The law's own walk, as functions. -/
namespace KM
def inside (a b : T) : Bool := (a.filter fun x => !decide (x ∈ b)).length == 0
def common (a b : T) : Nat := (a.filter fun x => decide (x ∈ b)).length
def subsets (n : Nat) : List T := (List.range n).foldl (fun f t => f ++ f.map (· ++ [t])) [[]]
def leastL1 (lots : List T) (kept : List T) (lot : T) : List T :=
  if lot ∈ kept then kept else if (lots.filter fun o => !decide (o = lot) && inside o lot).length == 0 then kept ++ [lot] else kept
def leastL (lots : List T) : List T := srt (lots.foldl (leastL1 lots) [])
def holds (lots : List T) (those : T) : Bool := lots.any fun l => inside l those
def meets (lots : List T) (those : T) : Bool := lots.all fun l => common l those != 0
def spare (lots : List T) (s : T) : Nat := (s.filter fun t => meets lots (s.filter fun o => o != t)).length
def isBlk (lots : List T) (s : T) : Bool := meets lots s && spare lots s == 0
def blocker (n : Nat) (lots : List T) : List T := srt ((subsets n).filter (isBlk lots))
def sized (n k : Nat) : List T := srt ((subsets n).filter fun s => s.length == k)
def fanL (n : Nat) : List T := srt ((List.range (n - 1)).map (fun i => [0, i + 1]) ++ [(List.range (n - 1)).map fun i => i + 1])
def ringL (n : Nat) : List T := srt ((List.range (n - 1)).map (fun i => [i, i + 1]) ++ [[0, n - 1]])
def rest (n : Nat) (s : T) : T := (List.range n).filter fun t => !decide (t ∈ s)
def within (s : T) (wide : List T) : Bool := wide.any fun o => inside s o
theorem inside_iff {a b : T} : inside a b = true ↔ ∀ x ∈ a, x ∈ b := by
  unfold inside
  rw [beq_iff_eq, List.length_eq_zero_iff, List.filter_eq_nil_iff]
  simp
theorem common_ne {a b : T} : common a b ≠ 0 ↔ ∃ x ∈ a, x ∈ b := by
  unfold common
  rw [ne_eq, List.length_eq_zero_iff, List.filter_eq_nil_iff]
  simp
theorem holds_iff {lots : List T} {s : T} : holds lots s = true ↔ ∃ l ∈ lots, ∀ x ∈ l, x ∈ s := by
  unfold holds
  rw [List.any_eq_true]
  constructor
  · rintro ⟨l, h1, h2⟩; exact ⟨l, h1, inside_iff.mp h2⟩
  · rintro ⟨l, h1, h2⟩; exact ⟨l, h1, inside_iff.mpr h2⟩
theorem meets_iff {lots : List T} {s : T} : meets lots s = true ↔ ∀ l ∈ lots, ∃ x ∈ l, x ∈ s := by
  unfold meets
  rw [List.all_eq_true]
  constructor
  · intro h l hl
    exact common_ne.mp (by simpa using h l hl)
  · intro h l hl
    simpa using common_ne.mpr (h l hl)
theorem within_iff {wide : List T} {s : T} : within s wide = true ↔ ∃ o ∈ wide, ∀ x ∈ s, x ∈ o := by
  unfold within
  rw [List.any_eq_true]
  constructor
  · rintro ⟨l, h1, h2⟩; exact ⟨l, h1, inside_iff.mp h2⟩
  · rintro ⟨l, h1, h2⟩; exact ⟨l, h1, inside_iff.mpr h2⟩
theorem mem_rest {n : Nat} {s : T} {x : Nat} : x ∈ rest n s ↔ x < n ∧ x ∉ s := by
  unfold rest
  rw [List.mem_filter, List.mem_range]
  simp
theorem rest_asc (n : Nat) (s : T) : Asc (rest n s) := (range_asc n).filter _
/-! all sets -/
theorem range_succ_fold {α : Type} (f : α → Nat → α) (a : α) (n : Nat) : (List.range (n + 1)).foldl f a = f ((List.range n).foldl f a) n := by
  rw [List.range_succ, List.foldl_append]
  rfl
theorem subsets_succ (n : Nat) : subsets (n + 1) = subsets n ++ (subsets n).map (· ++ [n]) := range_succ_fold _ _ _
theorem subsets_len : ∀ n, (subsets n).length = 2 ^ n
  | 0 => rfl
  | n + 1 => by
    rw [subsets_succ, List.length_append, List.length_map, subsets_len n, Nat.pow_succ]
    omega
theorem subsets_mem : ∀ (n : Nat) (s : T), s ∈ subsets n ↔ Asc s ∧ ∀ x ∈ s, x < n
  | 0, s => by
    show s ∈ [[]] ↔ _
    constructor
    · intro h
      have : s = [] := by simpa using h
      subst this
      exact ⟨List.Pairwise.nil, by simp⟩
    · rintro ⟨_, h⟩
      cases s with
      | nil => simp
      | cons a r => exact absurd (h a List.mem_cons_self) (by omega)
  | n + 1, s => by
    rw [subsets_succ, List.mem_append, subsets_mem n s, List.mem_map]
    constructor
    · rintro (⟨h1, h2⟩ | ⟨t, ht, rfl⟩)
      · exact ⟨h1, fun x hx => Nat.lt_succ_of_lt (h2 x hx)⟩
      · obtain ⟨h1, h2⟩ := (subsets_mem n t).mp ht
        refine ⟨List.pairwise_append.mpr ⟨h1, List.pairwise_singleton _ _, fun a ha b hb => ?_⟩, fun x hx => ?_⟩
        · have : b = n := by simpa using hb
          rw [this]; exact h2 a ha
        · rcases List.mem_append.mp hx with hx | hx
          · exact Nat.lt_succ_of_lt (h2 x hx)
          · have : x = n := by simpa using hx
            omega
    · rintro ⟨h1, h2⟩
      by_cases hn : n ∈ s
      · right
        refine ⟨s.filter (fun x => decide (x < n)), (subsets_mem n _).mpr ⟨h1.filter _, fun x hx => by simpa using (List.mem_filter.mp hx).2⟩, ?_⟩
        refine asc_ext (List.pairwise_append.mpr ⟨h1.filter _, List.pairwise_singleton _ _, fun a ha b hb => ?_⟩) h1 fun x => ?_
        · have : b = n := by simpa using hb
          rw [this]; simpa using (List.mem_filter.mp ha).2
        · rw [List.mem_append, List.mem_filter, List.mem_singleton]
          constructor
          · rintro (⟨h, _⟩ | rfl)
            · exact h
            · exact hn
          · intro h
            have := h2 x h
            by_cases hx : x = n
            · exact .inr hx
            · exact .inl ⟨h, by simp; omega⟩
      · left
        refine ⟨h1, fun x hx => ?_⟩
        have := h2 x hx
        have : x ≠ n := fun e => hn (e ▸ hx)
        omega
theorem subsets_nodup : ∀ n, (subsets n).Nodup
  | 0 => by show ([[]] : List T).Nodup; simp
  | n + 1 => by
    rw [subsets_succ]
    refine List.pairwise_append.mpr ⟨subsets_nodup n, List.pairwise_map.mpr ((subsets_nodup n).imp fun {a b} h e => h (List.append_cancel_right e)), fun a ha b hb e => ?_⟩
    obtain ⟨t, _, rfl⟩ := List.mem_map.mp hb
    have := ((subsets_mem n a).mp ha).2 n (by rw [e]; simp)
    omega
end KM
set_option Elab.async false
set_option linter.all false
set_option autoImplicit false
set_option maxRecDepth 100000
/-! Data over the hand layer: what a value stands for (Is), the state as data slot by slot (Env), what an expression gives as data (EP, EF, ET). -/
namespace Y
open PySem L2

inductive D where
  | non | bl (b : Bool) | int (i : Int) | str (x : Str) | ty (n : String)
  | adr (a : Addr) | tup (l : List D) | lst (l : List D) | ins (C : Addr) (ns : List Str) (l : List D)

mutual
inductive Is (K : PySem.W.Frag) (H : Hp) : V → D → Prop
  | non : Is K H .non .non
  | bl (b : Bool) : Is K H (.bl b) (.bl b)
  | int (i : Int) : Is K H (.int i) (.int i)
  | str (x : Str) : Is K H (.str x) (.str x)
  | ty (n : String) : Is K H (.ty n) (.ty n)
  | adr (a : Addr) : Is K H (.ref a) (.adr a)
  | tup {a : Addr} {xs : List V} {l : List D} : SqT K H a xs → IsAll K H xs l → Is K H (.ref a) (.tup l)
  | lst {a : Addr} {xs : List V} {l : List D} : SqL K H a xs → IsAll K H xs l → Is K H (.ref a) (.lst l)
  | ins {a C dx : Addr} {fs : List (Str × V)} {ns : List Str} {l : List D} : H a = some (.ins C dx fs) → fs.map (·.1) = ns → IsAll K H (fs.map (·.2)) l → Is K H (.ref a) (.ins C ns l)
inductive IsAll (K : PySem.W.Frag) (H : Hp) : List V → List D → Prop
  | nil : IsAll K H [] []
  | cons {v : V} {vs : List V} {d : D} {l : List D} : Is K H v d → IsAll K H vs l → IsAll K H (v :: vs) (d :: l)
end

/-- all that is known in H is known in H' -/
def Ex (H H' : Hp) : Prop := ∀ a o, H a = some o → H' a = some o
theorem Ex.refl (H : Hp) : Ex H H := fun _ _ h => h
theorem Ex.trans {H H1 H2 : Hp} (a : Ex H H1) (b : Ex H1 H2) : Ex H H2 := fun x o h => b x o (a x o h)
theorem Ex.new {H : Hp} {p : Addr} {o : HO} (h : H p = none) : Ex H (upd H p o) := fun a u e => by
  rw [upd_ne (ne_of_none e h)]
  exact e
theorem Ex.back {H H' : Hp} {p : Addr} (e : Ex H H') (h : H' p = none) : H p = none := by
  cases h1 : H p with
  | none => rfl
  | some o =>
    rw [e p o h1] at h
    cases h

/-- the heap without what may change -/
def hid (P : List Addr) (H : Hp) : Hp := fun a => if a ∈ P then none else H a
theorem hid_nil (H : Hp) : hid [] H = H := by funext a; simp [hid]
theorem hid_at {P : List Addr} {H : Hp} {a : Addr} (h : a ∉ P) : hid P H a = H a := by simp [hid, h]
theorem hid_some {P : List Addr} {H : Hp} {a : Addr} {o : HO} (h : hid P H a = some o) : a ∉ P ∧ H a = some o := by
  unfold hid at h
  split at h
  · cases h
  · exact ⟨by assumption, h⟩
theorem hid_le (P : List Addr) (H : Hp) : Ex (hid P H) H := fun _ _ h => (hid_some h).2
theorem hid_sub {P P' : List Addr} {H : Hp} (h : ∀ a ∈ P', a ∈ P) : Ex (hid P H) (hid P' H) := fun a o e => by
  obtain ⟨h1, h2⟩ := hid_some e
  rw [hid_at fun z => h1 (h a z)]
  exact h2
theorem hid_ex {P : List Addr} {H H' : Hp} (e : Ex H H') : Ex (hid P H) (hid P H') := fun a o h => by
  obtain ⟨h1, h2⟩ := hid_some h
  rw [hid_at h1]
  exact e a o h2

section
variable {K : PySem.W.Frag} {H H' : Hp}
theorem rd_ex {a : Addr} {u : HO} (e : Ex H H') (h : Rd H a u) : Rd H' a u := by
  rcases h with h | ⟨o, h⟩
  · exact .inl (e a _ h)
  · exact .inr ⟨o, e a _ h⟩
theorem sqL_ex {a : Addr} {xs : List V} (e : Ex H H') (h : SqL K H a xs) : SqL K H' a xs := h.elim (fun h => .inl (rd_ex e h)) .inr
theorem sqT_ex {a : Addr} {xs : List V} (e : Ex H H') (h : SqT K H a xs) : SqT K H' a xs := h.elim (fun h => .inl (rd_ex e h)) .inr
mutual
theorem Is.mono (e : Ex H H') : ∀ {v : V} {d : D}, Is K H v d → Is K H' v d
  | _, _, .non => .non
  | _, _, .bl b => .bl b
  | _, _, .int i => .int i
  | _, _, .str x => .str x
  | _, _, .ty n => .ty n
  | _, _, .adr a => .adr a
  | _, _, .tup h t => .tup (sqT_ex e h) (IsAll.mono e t)
  | _, _, .lst h t => .lst (sqL_ex e h) (IsAll.mono e t)
  | _, _, .ins h n t => .ins (e _ _ h) n (IsAll.mono e t)
theorem IsAll.mono (e : Ex H H') : ∀ {vs : List V} {l : List D}, IsAll K H vs l → IsAll K H' vs l
  | _, _, .nil => .nil
  | _, _, .cons h t => .cons (Is.mono e h) (IsAll.mono e t)
end
/-! data without a list: nothing of it can change -/
mutual
def D.im : D → Bool
  | .lst _ => false
  | .tup l => imAll l
  | .ins _ _ l => imAll l
  | _ => true
def imAll : List D → Bool
  | [] => true
  | d :: l => d.im && imAll l
end
theorem imAll_iff : ∀ {l : List D}, imAll l = true ↔ ∀ d ∈ l, d.im = true
  | [] => by simp [imAll]
  | d :: l => by simp [imAll, imAll_iff (l := l)]
/-- the addresses that may change hold lists -/
def Lsts (P : List Addr) (H : Hp) : Prop := ∀ p ∈ P, ∃ xs, H p = some (.lst xs)
theorem lsts_rd {P : List Addr} {a : Addr} {u : HO} (hP : Lsts P H) (hu : ∀ xs, u ≠ .lst xs) (h : Rd H a u) : Rd (hid P H) a u := by
  have na : ∀ {o : HO}, (∀ xs, o ≠ .lst xs) → H a = some o → a ∉ P := fun {o} ho e m => by
    obtain ⟨xs, q⟩ := hP a m
    rw [e] at q
    exact ho xs (Option.some.inj q)
  rcases h with h | ⟨o, h⟩
  · exact .inl (by rw [hid_at (na hu h)]; exact h)
  · exact .inr ⟨o, by rw [hid_at (na (fun xs z => by cases z) h)]; exact h⟩
mutual
theorem Is.clean {P : List Addr} (hP : Lsts P H) : ∀ {v : V} {d : D}, Is K H v d → d.im = true → Is K (hid P H) v d
  | _, _, .non, _ => .non
  | _, _, .bl b, _ => .bl b
  | _, _, .int i, _ => .int i
  | _, _, .str x, _ => .str x
  | _, _, .ty n, _ => .ty n
  | _, _, .adr a, _ => .adr a
  | _, _, .tup h t, im => .tup (h.elim (fun h => .inl (lsts_rd hP (fun xs z => by cases z) h)) .inr) (IsAll.clean hP t (by simpa [D.im] using im))
  | _, _, .lst h t, im => by simp [D.im] at im
  | _, _, .ins (a := a) h n t, im => .ins (by
      rw [hid_at fun m => by
        obtain ⟨xs, q⟩ := hP a m
        rw [h] at q
        cases q]
      exact h) n (IsAll.clean hP t (by simpa [D.im] using im))
theorem IsAll.clean {P : List Addr} (hP : Lsts P H) : ∀ {vs : List V} {l : List D}, IsAll K H vs l → imAll l = true → IsAll K (hid P H) vs l
  | _, _, .nil, _ => .nil
  | _, _, .cons h t, im => .cons (Is.clean hP h (by simp [imAll] at im; exact im.1)) (IsAll.clean hP t (by simp [imAll] at im; exact im.2))
end
theorem IsAll.length : ∀ {vs : List V} {l : List D}, IsAll K H vs l → vs.length = l.length
  | _, _, .nil => rfl
  | _, _, .cons _ t => by simp [IsAll.length t]
theorem IsAll.get : ∀ {vs : List V} {l : List D} {i : Nat} {v : V}, IsAll K H vs l → vs[i]? = some v → ∃ d, l[i]? = some d ∧ Is K H v d
  | _, _, i, v, .nil, e => by simp at e
  | _, _, 0, v, .cons h t, e => by simp at e; subst e; exact ⟨_, rfl, h⟩
  | _, _, i + 1, v, .cons h t, e => by
    obtain ⟨d, h1, h2⟩ := IsAll.get t (i := i) (v := v) (by simpa using e)
    exact ⟨d, by simpa using h1, h2⟩
theorem IsAll.getD : ∀ {vs : List V} {l : List D} {i : Nat} {d : D}, IsAll K H vs l → l[i]? = some d → ∃ v, vs[i]? = some v ∧ Is K H v d
  | _, _, i, d, .nil, e => by simp at e
  | _, _, 0, d, .cons h t, e => by simp at e; subst e; exact ⟨_, rfl, h⟩
  | _, _, i + 1, d, .cons h t, e => by
    obtain ⟨v, h1, h2⟩ := IsAll.getD t (i := i) (d := d) (by simpa using e)
    exact ⟨v, by simpa using h1, h2⟩
theorem IsAll.append : ∀ {vs us : List V} {l m : List D}, IsAll K H vs l → IsAll K H us m → IsAll K H (vs ++ us) (l ++ m)
  | _, _, _, _, .nil, q => q
  | _, _, _, _, .cons h t, q => .cons h (IsAll.append t q)
theorem IsAll.one {v : V} {d : D} (h : Is K H v d) : IsAll K H [v] [d] := .cons h .nil
theorem IsAll.rev {vs : List V} {l : List D} (h : IsAll K H vs l) : IsAll K H vs.reverse l.reverse := by
  induction vs generalizing l with
  | nil => cases h; exact .nil
  | cons v vs ih =>
    cases h with
    | cons h t =>
      rw [List.reverse_cons, List.reverse_cons]
      exact (ih t).append (.one h)
theorem IsAll.take : ∀ {vs : List V} {l : List D} (n : Nat), IsAll K H vs l → IsAll K H (vs.take n) (l.take n)
  | _, _, 0, _ => .nil
  | _, _, _ + 1, .nil => .nil
  | _, _, n + 1, .cons h t => .cons h (IsAll.take n t)
theorem IsAll.drop : ∀ {vs : List V} {l : List D} (n : Nat), IsAll K H vs l → IsAll K H (vs.drop n) (l.drop n)
  | _, _, 0, h => h
  | _, _, _ + 1, .nil => .nil
  | _, _, n + 1, .cons _ t => IsAll.drop n t
theorem IsAll.dropLast {vs : List V} {l : List D} (h : IsAll K H vs l) : IsAll K H vs.dropLast l.dropLast := by
  rw [List.dropLast_eq_take, List.dropLast_eq_take, h.length]
  exact h.take _
/-- ints -/
theorem IsAll.ints : ∀ {vs : List V} {ns : List Int}, IsAll K H vs (ns.map D.int) → vs = ns.map V.int
  | _, [], .nil => rfl
  | _, n :: ns, .cons h t => by
    cases h
    rw [IsAll.ints t]
    rfl
theorem isAll_ints : ∀ (ns : List Int), IsAll K H (ns.map V.int) (ns.map D.int)
  | [] => .nil
  | n :: ns => .cons (.int n) (isAll_ints ns)
theorem Is.int_inv {v : V} {i : Int} (h : Is K H v (.int i)) : v = .int i := by cases h; rfl
theorem Is.bl_inv {v : V} {b : Bool} (h : Is K H v (.bl b)) : v = .bl b := by cases h; rfl
theorem Is.tup_inv {v : V} {l : List D} (h : Is K H v (.tup l)) : ∃ a xs, v = .ref a ∧ SqT K H a xs ∧ IsAll K H xs l := by
  cases h with
  | tup h t => exact ⟨_, _, rfl, h, t⟩
theorem Is.lst_inv {v : V} {l : List D} (h : Is K H v (.lst l)) : ∃ a xs, v = .ref a ∧ SqL K H a xs ∧ IsAll K H xs l := by
  cases h with
  | lst h t => exact ⟨_, _, rfl, h, t⟩
theorem Is.ins_inv {v : V} {C : Addr} {ns : List Str} {l : List D} (h : Is K H v (.ins C ns l)) : ∃ a dx fs, v = .ref a ∧ H a = some (.ins C dx fs) ∧ fs.map (·.1) = ns ∧ IsAll K H (fs.map (·.2)) l := by
  cases h with
  | ins h n t => exact ⟨_, _, _, rfl, h, n, t⟩
end

/-! ### the state as data -/
inductive Slot where
  | no | val (d : D) | own (p : Addr) (l : List D)
def ows : List Slot → List Addr
  | [] => []
  | .own p _ :: E => p :: ows E
  | .no :: E => ows E
  | .val _ :: E => ows E
theorem mem_ows : ∀ {E : List Slot} {p : Addr}, p ∈ ows E ↔ ∃ (i : Nat) (l : List D), E[i]? = some (.own p l)
  | [], p => by simp [ows]
  | .own q m :: E, p => by
    rw [show ows (.own q m :: E) = q :: ows E from rfl, List.mem_cons, mem_ows (E := E)]
    constructor
    · rintro (rfl | ⟨i, l, h⟩)
      · exact ⟨0, m, rfl⟩
      · exact ⟨i + 1, l, by simpa using h⟩
    · rintro ⟨i, l, h⟩
      cases i with
      | zero => simp at h; exact .inl h.1.symm
      | succ i => exact .inr ⟨i, l, by simpa using h⟩
  | .no :: E, p => by
    rw [show ows (.no :: E) = ows E from rfl, mem_ows (E := E)]
    constructor
    · rintro ⟨i, l, h⟩; exact ⟨i + 1, l, by simpa using h⟩
    · rintro ⟨i, l, h⟩
      cases i with
      | zero => simp at h
      | succ i => exact ⟨i, l, by simpa using h⟩
  | .val d :: E, p => by
    rw [show ows (.val d :: E) = ows E from rfl, mem_ows (E := E)]
    constructor
    · rintro ⟨i, l, h⟩; exact ⟨i + 1, l, by simpa using h⟩
    · rintro ⟨i, l, h⟩
      cases i with
      | zero => simp at h
      | succ i => exact ⟨i, l, by simpa using h⟩

/-- the state as data: K the written part; B what the def may change of its caller's; H0 the heap at its entry; Z values held besides -/
structure Env (K : PySem.W.Frag) (B : List Addr) (H0 : Hp) (Z : Hp → Prop) (E : List Slot) (σ : L2.St) (H : Hp) : Prop where
  ex : ∀ a o, a ∉ B → H0 a = some o → H a = some o
  inj : ∀ (i j : Nat) (p : Addr) (l m : List D), E[i]? = some (.own p l) → E[j]? = some (.own p m) → i = j
  fr : ∀ (i : Nat) (p : Addr) (l : List D), E[i]? = some (.own p l) → p ∈ B ∨ H0 p = none
  len : σ.length = E.length
  val : ∀ (i : Nat) (d : D), E[i]? = some (.val d) → ∃ v, σ[i]? = some (some v) ∧ Is K (hid (ows E) H) v d
  own : ∀ (i : Nat) (p : Addr) (l : List D), E[i]? = some (.own p l) → σ[i]? = some (some (.ref p)) ∧ ∃ vs, H p = some (.lst vs) ∧ IsAll K (hid (ows E) H) vs l
  pin : Z (hid (ows E) H)
  zm : ∀ {H H' : Hp}, Ex H H' → Z H → Z H'

section
variable {K : PySem.W.Frag} {B : List Addr} {H0 : Hp} {Z : Hp → Prop} {E : List Slot} {σ : L2.St} {H H' : Hp}
theorem Env.lsts (e : Env K B H0 Z E σ H) : Lsts (ows E) H := fun p hp => by
  obtain ⟨i, l, h⟩ := mem_ows.mp hp
  obtain ⟨_, vs, h2, _⟩ := e.own i p l h
  exact ⟨vs, h2⟩
theorem Env.ext (e : Env K B H0 Z E σ H) (x : Ex H H') : Env K B H0 Z E σ H' where
  ex a o h q := x a o (e.ex a o h q)
  inj := e.inj
  fr := e.fr
  len := e.len
  val i d h := let ⟨v, a, b⟩ := e.val i d h; ⟨v, a, b.mono (hid_ex x)⟩
  own i p l h := let ⟨a, vs, b, c⟩ := e.own i p l h; ⟨a, vs, x _ _ b, c.mono (hid_ex x)⟩
  pin := e.zm (hid_ex x) e.pin
  zm := e.zm
/-- a value held besides -/
theorem Env.hold {v : V} {d : D} (e : Env K B H0 Z E σ H) (h : Is K H v d) (im : d.im = true) : Env K B H0 (fun H => Z H ∧ Is K H v d) E σ H :=
  ⟨e.ex, e.inj, e.fr, e.len, e.val, e.own, ⟨e.pin, h.clean e.lsts im⟩, fun x q => ⟨e.zm x q.1, q.2.mono x⟩⟩
theorem Env.drop {Y : Hp → Prop} (e : Env K B H0 (fun H => Z H ∧ Y H) E σ H) (zm : ∀ {H H' : Hp}, Ex H H' → Z H → Z H') : Env K B H0 Z E σ H := ⟨e.ex, e.inj, e.fr, e.len, e.val, e.own, e.pin.1, zm⟩
theorem set_get {E : List Slot} {i j : Nat} {s t : Slot} (h : (E.set i s)[j]? = some t) : (i = j ∧ s = t ∧ i < E.length) ∨ (i ≠ j ∧ E[j]? = some t) := by
  rw [List.getElem?_set] at h
  by_cases hij : i = j
  · rw [if_pos hij] at h
    by_cases hlt : i < E.length
    · rw [if_pos hlt] at h
      exact .inl ⟨hij, Option.some.inj h, hlt⟩
    · rw [if_neg hlt] at h
      cases h
  · rw [if_neg hij] at h
    exact .inr ⟨hij, h⟩
theorem ows_sub {i : Nat} {s : Slot} (hs : ∀ p l, s ≠ .own p l) : ∀ a ∈ ows (E.set i s), a ∈ ows E := fun a ha => by
  obtain ⟨j, l, h⟩ := mem_ows.mp ha
  rcases set_get h with ⟨_, q, _⟩ | ⟨_, q⟩
  · exact absurd q (hs a l)
  · exact mem_ows.mpr ⟨j, l, q⟩
/-- a slot gets a value -/
theorem Env.setC {i : Nat} {v : V} {d : D} (e : Env K B H0 Z E σ H) (h : Is K (hid (ows E) H) v d) : Env K B H0 Z (E.set i (.val d)) (σ.set i (some v)) H := by
  have sb : Ex (hid (ows E) H) (hid (ows (E.set i (.val d))) H) := hid_sub (ows_sub fun p l z => by cases z)
  have old : ∀ {j : Nat} {p : Addr} {l : List D}, (E.set i (.val d))[j]? = some (.own p l) → i ≠ j ∧ E[j]? = some (.own p l) := fun {j p l} q => by
    rcases set_get q with ⟨_, z, _⟩ | z
    · cases z
    · exact z
  refine ⟨e.ex, fun a b p l m h1 h2 => e.inj a b p l m (old h1).2 (old h2).2, fun a p l h1 => e.fr a p l (old h1).2, by simp [e.len], fun j d' q => ?_, fun j p l q => ?_, e.zm sb e.pin, e.zm⟩
  · rcases set_get q with ⟨hij, hd, hlt⟩ | ⟨hij, q⟩
    · cases hd
      subst hij
      exact ⟨v, by rw [List.getElem?_set_self (by rw [e.len]; exact hlt)], h.mono sb⟩
    · obtain ⟨w, q1, q2⟩ := e.val j d' q
      exact ⟨w, by rw [List.getElem?_set_ne hij]; exact q1, q2.mono sb⟩
  · obtain ⟨hij, q'⟩ := old q
    obtain ⟨q1, vs, q2, q3⟩ := e.own j p l q'
    exact ⟨by rw [List.getElem?_set_ne hij]; exact q1, vs, q2, q3.mono sb⟩
theorem Env.set {i : Nat} {v : V} {d : D} (e : Env K B H0 Z E σ H) (h : Is K H v d) (im : d.im = true) : Env K B H0 Z (E.set i (.val d)) (σ.set i (some v)) H := e.setC (h.clean e.lsts im)
/-- a slot gets a new list -/
theorem Env.setO {i : Nat} {p : Addr} {vs : List V} {l : List D} {Hb : Hp} (e : Env K B H0 Z E σ Hb) (x : Ex Hb H) (hp : Hb p = none) (hH : H p = some (.lst vs)) (h : IsAll K H vs l) (im : imAll l = true) (h0 : p ∉ B → H0 p = none := by assumption) :
    Env K B H0 Z (E.set i (.own p l)) (σ.set i (some (.ref p))) H := by
  have np : ∀ a ∈ ows E, a ≠ p := fun a ha z => by
    obtain ⟨xs, q⟩ := e.lsts a ha
    rw [z, hp] at q
    cases q
  have sb : Ex (hid (ows E) Hb) (hid (ows (E.set i (.own p l))) H) := fun a o q => by
    obtain ⟨q1, q2⟩ := hid_some q
    rw [hid_at]
    · exact x a o q2
    · intro m
      obtain ⟨j, l', hj⟩ := mem_ows.mp m
      rcases set_get hj with ⟨_, z, _⟩ | ⟨_, z⟩
      · injection z with z1 z2
        rw [← z1, hp] at q2
        cases q2
      · exact q1 (mem_ows.mpr ⟨j, l', z⟩)
  have e' := e.ext x
  have lsH : Lsts (ows (E.set i (.own p l))) H := fun a ha => by
    obtain ⟨j, l', hj⟩ := mem_ows.mp ha
    rcases set_get hj with ⟨_, z, _⟩ | ⟨_, z⟩
    · injection z with z1 z2
      exact ⟨vs, by rw [← z1]; exact hH⟩
    · exact e'.lsts a (mem_ows.mpr ⟨j, l', z⟩)
  have hp0 : p ∈ B ∨ H0 p = none := by
    by_cases hb : p ∈ B
    · exact .inl hb
    · exact .inr (h0 hb)
  have cases' : ∀ {j : Nat} {q : Addr} {m : List D}, (E.set i (.own p l))[j]? = some (.own q m) → (i = j ∧ p = q ∧ l = m ∧ i < E.length) ∨ (i ≠ j ∧ E[j]? = some (.own q m)) := fun {j q m} hj => by
    rcases set_get hj with ⟨h1, z, h2⟩ | z
    · injection z with z1 z2
      exact .inl ⟨h1, z1, z2, h2⟩
    · exact .inr z
  refine ⟨e'.ex, fun a b q m n h1 h2 => ?_, fun a q m h1 => ?_, by simp [e.len], fun j d' q => ?_, fun j q m hj => ?_, e.zm sb e.pin, e.zm⟩
  · rcases cases' h1 with ⟨r1, r2, _, _⟩ | ⟨r1, r2⟩ <;> rcases cases' h2 with ⟨s1, s2, _, _⟩ | ⟨s1, s2⟩
    · rw [← r1, ← s1]
    · exact absurd r2.symm (np q (mem_ows.mpr ⟨b, n, s2⟩))
    · exact absurd s2.symm (np q (mem_ows.mpr ⟨a, m, r2⟩))
    · exact e.inj a b q m n r2 s2
  · rcases cases' h1 with ⟨_, r2, _, _⟩ | ⟨_, r2⟩
    · rw [← r2]; exact hp0
    · exact e.fr a q m r2
  · rcases set_get q with ⟨_, z, _⟩ | ⟨hij, q⟩
    · cases z
    · obtain ⟨w, q1, q2⟩ := e.val j d' q
      exact ⟨w, by rw [List.getElem?_set_ne hij]; exact q1, q2.mono sb⟩
  · rcases cases' hj with ⟨r1, r2, r3, r4⟩ | ⟨r1, r2⟩
    · subst r1 r2 r3
      exact ⟨by rw [List.getElem?_set_self (by rw [e.len]; exact r4)], vs, hH, h.clean lsH im⟩
    · obtain ⟨q1, ws, q2, q3⟩ := e.own j q m r2
      exact ⟨by rw [List.getElem?_set_ne r1]; exact q1, ws, x _ _ q2, q3.mono sb⟩
/-- an owned list changes -/
theorem Env.chg {i : Nat} {p : Addr} {l l' : List D} {vs' : List V} (e : Env K B H0 Z E σ H) (hi : E[i]? = some (.own p l)) (h : IsAll K (hid (ows E) H) vs' l') :
    Env K B H0 Z (E.set i (.own p l')) σ (upd H p (.lst vs')) := by
  have hlt : i < E.length := (List.getElem?_eq_some_iff.mp hi).1
  have ho : ∀ a, a ∈ ows (E.set i (.own p l')) ↔ a ∈ ows E := fun a => by
    rw [mem_ows, mem_ows]
    constructor
    · rintro ⟨j, m, hj⟩
      rcases set_get hj with ⟨_, z, _⟩ | ⟨_, z⟩
      · injection z with z1 z2
        exact ⟨i, l, by rw [← z1]; exact hi⟩
      · exact ⟨j, m, z⟩
    · rintro ⟨j, m, hj⟩
      by_cases hij : i = j
      · subst hij
        rw [hi] at hj
        injection (Option.some.inj hj) with z1 z2
        exact ⟨i, l', by rw [List.getElem?_set_self hlt, z1]⟩
      · exact ⟨j, m, by rw [List.getElem?_set_ne hij]; exact hj⟩
  have sb : Ex (hid (ows E) H) (hid (ows (E.set i (.own p l'))) (upd H p (.lst vs'))) := fun a o q => by
    obtain ⟨q1, q2⟩ := hid_some q
    have hap : a ≠ p := fun z => q1 (by rw [z]; exact mem_ows.mpr ⟨i, l, hi⟩)
    rw [hid_at (fun m => q1 ((ho a).mp m)), upd_ne hap]
    exact q2
  have cases' : ∀ {j : Nat} {q : Addr} {m : List D}, (E.set i (.own p l'))[j]? = some (.own q m) → (i = j ∧ p = q ∧ l' = m) ∨ (i ≠ j ∧ E[j]? = some (.own q m)) := fun {j q m} hj => by
    rcases set_get hj with ⟨h1, z, h2⟩ | z
    · injection z with z1 z2
      exact .inl ⟨h1, z1, z2⟩
    · exact .inr z
  refine ⟨fun a o hb q => ?_, fun a b q m n h1 h2 => ?_, fun a q m h1 => ?_, by simp [e.len], fun j d' q => ?_, fun j q m hj => ?_, e.zm sb e.pin, e.zm⟩
  · have hap : a ≠ p := fun z => by
      rcases e.fr i p l hi with w | w
      · exact hb (by rw [z]; exact w)
      · rw [z, w] at q; cases q
    rw [upd_ne hap]
    exact e.ex a o hb q
  · rcases cases' h1 with ⟨r1, r2, _⟩ | ⟨r1, r2⟩ <;> rcases cases' h2 with ⟨s1, s2, _⟩ | ⟨s1, s2⟩
    · rw [← r1, ← s1]
    · exact e.inj a b q l n (by rw [← r1, ← r2]; exact hi) s2
    · exact e.inj a b q m l r2 (by rw [← s1, ← s2]; exact hi)
    · exact e.inj a b q m n r2 s2
  · rcases cases' h1 with ⟨_, r2, _⟩ | ⟨_, r2⟩
    · rw [← r2]; exact e.fr i p l hi
    · exact e.fr a q m r2
  · rcases set_get q with ⟨_, z, _⟩ | ⟨hij, q⟩
    · cases z
    · obtain ⟨w, q1, q2⟩ := e.val j d' q
      exact ⟨w, q1, q2.mono sb⟩
  · rcases cases' hj with ⟨r1, r2, r3⟩ | ⟨r1, r2⟩
    · subst r1 r2 r3
      exact ⟨(e.own i p l hi).1, vs', upd_same, h.mono sb⟩
    · obtain ⟨q1, ws, q2, q3⟩ := e.own j q m r2
      have hqp : q ≠ p := fun z => r1 (e.inj i j p l m hi (by rw [← z]; exact r2))
      exact ⟨q1, ws, by rw [upd_ne hqp]; exact q2, q3.mono sb⟩
end
end Y
set_option Elab.async false
set_option linter.all false
set_option autoImplicit false
set_option maxRecDepth 100000
/-! What expressions, tests and statements give, as data. -/
namespace Y
open PySem L2

section
variable (K : PySem.W.Frag) (B : List Addr) (H0 : Hp) (Z : Hp → Prop)
/-- an expression gives d, making at most new things -/
def EP (te : TE) (E : List Slot) (d : D) : Prop := ∀ σ H, Env K B H0 Z E σ H → ∀ Q : VK, (∀ v H', Ex H H' → Is K H' v d → Q v H') → te σ H Q
/-- .. a new list -/
def EF (te : TE) (E : List Slot) (l : List D) : Prop := ∀ σ H, Env K B H0 Z E σ H → ∀ Q : VK, (∀ p vs H', H p = none → Ex H H' → H' p = some (.lst vs) → IsAll K H' vs l → Q (.ref p) H') → te σ H Q
def ET (t : TT) (E : List Slot) (b : Bool) : Prop := ∀ σ H, Env K B H0 Z E σ H → ∀ Q : Bool → Hp → Prop, (∀ H', Ex H H' → Q b H') → t σ H Q
def EA (ta : TA) (E : List Slot) (l : List D) : Prop := ∀ σ H, Env K B H0 Z E σ H → ∀ Q : List V → Hp → Prop, (∀ vs H', Ex H H' → IsAll K H' vs l → Q vs H') → ta σ H Q
/-- a statement runs well from E -/
def SD (t : TS) (D : Ends) (E : List Slot) : Prop := ∀ σ H, Env K B H0 Z E σ H → t D σ H
/-- d may be handed back -/
def RT (D : Ends) (d : Y.D) : Prop := ∀ v H, (∀ a o, a ∉ B → H0 a = some o → H a = some o) → Is K H v d → D.rt v H
end
section
variable (K : PySem.W.Frag)
/-- an operation of two values -/
def R2d (r : R2) (x y z : D) : Prop := ∀ vx vy H, Is K H vx x → Is K H vy y → ∀ Q : VK, (∀ v H', Ex H H' → Is K H' v z → Q v H') → r vx vy H Q
def R1d (r : V → Hp → VK → Prop) (x z : D) : Prop := ∀ vx H, Is K H vx x → ∀ Q : VK, (∀ v H', Ex H H' → Is K H' v z → Q v H') → r vx H Q
def RCd (r : List V → Hp → VK → Prop) (l : List D) (z : D) : Prop := ∀ vs H, IsAll K H vs l → ∀ Q : VK, (∀ v H', Ex H H' → Is K H' v z → Q v H') → r vs H Q
def RCf (r : List V → Hp → VK → Prop) (l : List D) (m : List D) : Prop := ∀ vs H, IsAll K H vs l → ∀ Q : VK, (∀ p ws H', H p = none → Ex H H' → H' p = some (.lst ws) → IsAll K H' ws m → Q (.ref p) H') → r vs H Q
def R2f (r : R2) (x y : D) (m : List D) : Prop := ∀ vx vy H, Is K H vx x → Is K H vy y → ∀ Q : VK, (∀ p ws H', H p = none → Ex H H' → H' p = some (.lst ws) → IsAll K H' ws m → Q (.ref p) H') → r vx vy H Q
end

section
variable {K : PySem.W.Frag} {B : List Addr} {H0 : Hp} {Z : Hp → Prop} {E : List Slot} {ta tb tc te : TE} {t u : TT} {ea : TA} {x y z d : D} {l m : List D} {b c : Bool}
theorem EF.p (h : EF K B H0 Z te E l) : EP K B H0 Z te E (.lst l) := fun σ H e Q q => h σ H e Q fun p vs H' _ x h1 h2 => q _ _ x (.lst (SqL.of h1) h2)
theorem ep_var {i : Nat} (h : E[i]? = some (.val d)) : EP K B H0 Z (tVar i) E d := fun σ H e Q q => by
  obtain ⟨v, h1, h2⟩ := e.val i d h
  exact ⟨v, h1, q v H (Ex.refl H) (h2.mono (hid_le _ _))⟩
theorem ep_own {i : Nat} {p : Addr} (h : E[i]? = some (.own p l)) : EP K B H0 Z (tVar i) E (.lst l) := fun σ H e Q q => by
  obtain ⟨h1, vs, h2, h3⟩ := e.own i p l h
  exact ⟨_, h1, q _ H (Ex.refl H) (.lst (SqL.of h2) (h3.mono (hid_le _ _)))⟩
theorem ep_int {i : Int} : EP K B H0 Z (tC (.int i)) E (.int i) := fun σ H _ Q q => q _ H (Ex.refl H) (.int i)
theorem ep_bl {b : Bool} : EP K B H0 Z (tC (.bl b)) E (.bl b) := fun σ H _ Q q => q _ H (Ex.refl H) (.bl b)
theorem ep_str {s : Str} : EP K B H0 Z (tC (.str s)) E (.str s) := fun σ H _ Q q => q _ H (Ex.refl H) (.str s)
theorem ep_non : EP K B H0 Z (tC .non) E .non := fun σ H _ Q q => q _ H (Ex.refl H) .non
theorem ep_ty {n : String} : EP K B H0 Z (tC (.ty n)) E (.ty n) := fun σ H _ Q q => q _ H (Ex.refl H) (.ty n)
theorem ep_is {d' : D} (h : EP K B H0 Z te E d) (e : d = d') : EP K B H0 Z te E d' := e ▸ h
theorem ep_op {r : R2} (ha : EP K B H0 Z ta E x) (hb : EP K B H0 Z tb E y) (hr : R2d K r x y z) : EP K B H0 Z (tOp r ta tb) E z := fun σ H e Q q =>
  ha σ H e _ fun vx H1 e1 h1 => hb σ H1 (e.ext e1) _ fun vy H2 e2 h2 => hr vx vy H2 (h1.mono e2) h2 Q fun v H3 e3 h3 => q v H3 ((e1.trans e2).trans e3) h3
theorem ef_op {r : R2} (ha : EP K B H0 Z ta E x) (hb : EP K B H0 Z tb E y) (hr : R2f K r x y m) : EF K B H0 Z (tOp r ta tb) E m := fun σ H e Q q =>
  ha σ H e _ fun vx H1 e1 h1 => hb σ H1 (e.ext e1) _ fun vy H2 e2 h2 => hr vx vy H2 (h1.mono e2) h2 Q fun p ws H3 np e3 hp h3 => q p ws H3 ((e1.trans e2).back np) ((e1.trans e2).trans e3) hp h3
theorem ep_un {r : V → Hp → VK → Prop} (ha : EP K B H0 Z ta E x) (hr : R1d K r x z) : EP K B H0 Z (tUn r ta) E z := fun σ H e Q q =>
  ha σ H e _ fun vx H1 e1 h1 => hr vx H1 h1 Q fun v H3 e3 h3 => q v H3 (e1.trans e3) h3
theorem ea_nil : EA K B H0 Z tNil E [] := fun σ H _ Q q => q [] H (Ex.refl H) .nil
theorem ea_cons {tr : TA} (h : EP K B H0 Z te E d) (hr : EA K B H0 Z tr E l) : EA K B H0 Z (tCons te tr) E (d :: l) := fun σ H e Q q =>
  h σ H e _ fun v H1 e1 h1 => hr σ H1 (e.ext e1) _ fun vs H2 e2 h2 => q _ H2 (e1.trans e2) (.cons (h1.mono e2) h2)
theorem ep_cb {r : List V → Hp → VK → Prop} (h : EA K B H0 Z ea E l) (hr : RCd K r l z) : EP K B H0 Z (tCB r ea) E z := fun σ H e Q q =>
  h σ H e _ fun vs H1 e1 h1 => hr vs H1 h1 Q fun v H2 e2 h2 => q v H2 (e1.trans e2) h2
theorem ef_cb {r : List V → Hp → VK → Prop} (h : EA K B H0 Z ea E l) (hr : RCf K r l m) : EF K B H0 Z (tCB r ea) E m := fun σ H e Q q =>
  h σ H e _ fun vs H1 e1 h1 => hr vs H1 h1 Q fun p ws H2 np e2 hp h2 => q p ws H2 (e1.back np) (e1.trans e2) hp h2
theorem ep_tup (h : EA K B H0 Z ea E l) (hl : l.length ≤ 100000 := by simp) : EP K B H0 Z (tTup ea) E (.tup l) := fun σ H e Q q =>
  h σ H e _ fun vs H1 e1 h1 => ⟨by rw [h1.length, sizeLine_eq]; omega, fun p np => q _ _ (e1.trans (Ex.new np)) (.tup (SqT.of upd_same) (h1.mono (Ex.new np)))⟩
theorem ef_lst (h : EA K B H0 Z ea E l) (hl : l.length ≤ 100000 := by simp) : EF K B H0 Z (tLst ea) E l := fun σ H e Q q =>
  h σ H e _ fun vs H1 e1 h1 => ⟨by rw [h1.length, sizeLine_eq]; omega, fun p np => q p vs _ (e1.back np) (e1.trans (Ex.new np)) upd_same (h1.mono (Ex.new np))⟩

/-! ### tests -/
theorem et_test (h : EP K B H0 Z te E (.bl b)) : ET K B H0 Z (tTest te) E b := fun σ H e Q q => h σ H e _ fun v H1 e1 h1 => by
  cases h1
  exact ⟨b, rfl, q H1 e1⟩
theorem et_B (h : EP K B H0 Z te E (.bl b)) : ET K B H0 Z (tB te) E b := fun σ H e Q q => h σ H e _ fun v H1 e1 h1 => by
  cases h1
  exact ⟨b, rfl, q H1 e1⟩
theorem et_is (h : ET K B H0 Z t E b) (e : b = c) : ET K B H0 Z t E c := e ▸ h
theorem et_and (h1 : ET K B H0 Z t E b) (h2 : b = true → ET K B H0 Z u E c) : ET K B H0 Z (tAnd t u) E (b && c) := fun σ H e Q q => h1 σ H e _ fun H1 e1 => by
  cases b with
  | true => exact h2 rfl σ H1 (e.ext e1) Q fun H2 e2 => q H2 (e1.trans e2)
  | false => exact q H1 e1
theorem et_or (h1 : ET K B H0 Z t E b) (h2 : b = false → ET K B H0 Z u E c) : ET K B H0 Z (tOr t u) E (b || c) := fun σ H e Q q => h1 σ H e _ fun H1 e1 => by
  cases b with
  | true => exact q H1 e1
  | false => exact h2 rfl σ H1 (e.ext e1) Q fun H2 e2 => q H2 (e1.trans e2)
theorem et_not (h1 : ET K B H0 Z t E b) : ET K B H0 Z (tNot t) E (!b) := fun σ H e Q q => h1 σ H e _ fun H1 e1 => q H1 e1
theorem et_yes : ET K B H0 Z tYes E true := fun σ H _ Q q => q H (Ex.refl H)
theorem ep_andV (h1 : EP K B H0 Z ta E (.bl b)) (h2 : b = true → EP K B H0 Z tb E (.bl c)) : EP K B H0 Z (tAndV ta tb) E (.bl (b && c)) := fun σ H e Q q => h1 σ H e _ fun v H1 e1 h1 => by
  cases h1
  refine ⟨b, rfl, ?_⟩
  cases b with
  | true => exact h2 rfl σ H1 (e.ext e1) Q fun v H2 e2 h => q v H2 (e1.trans e2) h
  | false => exact q _ H1 e1 (.bl _)
theorem ep_orV (h1 : EP K B H0 Z ta E (.bl b)) (h2 : b = false → EP K B H0 Z tb E (.bl c)) : EP K B H0 Z (tOrV ta tb) E (.bl (b || c)) := fun σ H e Q q => h1 σ H e _ fun v H1 e1 h1 => by
  cases h1
  refine ⟨b, rfl, ?_⟩
  cases b with
  | true => exact q _ H1 e1 (.bl _)
  | false => exact h2 rfl σ H1 (e.ext e1) Q fun v H2 e2 h => q v H2 (e1.trans e2) h
theorem ep_notV (h1 : EP K B H0 Z ta E (.bl b)) : EP K B H0 Z (tNotV ta) E (.bl (!b)) := fun σ H e Q q => h1 σ H e _ fun v H1 e1 h1 => by
  cases h1
  exact ⟨b, rfl, q _ H1 e1 (.bl _)⟩
theorem ep_if (h : ET K B H0 Z t E b) (h1 : b = true → EP K B H0 Z ta E d) (h2 : b = false → EP K B H0 Z tb E d) : EP K B H0 Z (tIf t ta tb) E d := fun σ H e Q q => h σ H e _ fun H1 e1 => by
  cases b with
  | true => exact h1 rfl σ H1 (e.ext e1) Q fun v H2 e2 h => q v H2 (e1.trans e2) h
  | false => exact h2 rfl σ H1 (e.ext e1) Q fun v H2 e2 h => q v H2 (e1.trans e2) h

/-! ### statements -/
variable {D : Ends} {tx ty tz : TS}
theorem sd_seq (h : SD K B H0 Z tx { D with nx := tz D } E) : SD K B H0 Z (tSeq tx tz) D E := h
theorem sd_go {D' : Ends} (h : SD K B H0 Z tz D E) : SD K B H0 Z tNext { D' with nx := tz D } E := h
theorem sd_nx {E' : List Slot} {bk ct : L2.St → Hp → Prop} {rt : VK} (h : E = E') : SD K B H0 Z tNext { nx := fun σ H => Env K B H0 Z E' σ H, rt := rt, bk := bk, ct := ct } E := fun σ H e => h ▸ e
theorem sd_asg {i : Nat} (h : EP K B H0 Z te E d) (im : d.im = true) (k : SD K B H0 Z tNext D (E.set i (.val d))) : SD K B H0 Z (tAsg te (gName i)) D E := fun σ H e =>
  h σ H e _ fun v H1 e1 h1 => k _ H1 ((e.ext e1).set h1 im)
/-- a new list, to be changed later | never changed -/
theorem sd_asgO {i : Nat} (h : EF K B H0 Z te E l) (im : imAll l = true) (k : ∀ p, SD K B H0 Z tNext D (E.set i (.own p l))) : SD K B H0 Z (tAsg te (gName i)) D E := fun σ H e =>
  h σ H e _ fun p vs H1 np e1 hp h1 => k p _ H1 (e.setO e1 np hp h1 im fun hb => by
    cases q : H0 p with
    | none => rfl
    | some o =>
      have := e.ex p o hb q
      rw [np] at this
      cases this)
theorem sd_asgL {i : Nat} (h : EF K B H0 Z te E l) (im : imAll l = true) (k : SD K B H0 Z tNext D (E.set i (.val (.lst l)))) : SD K B H0 Z (tAsg te (gName i)) D E := fun σ H e =>
  h σ H e _ fun p vs H1 np e1 hp h1 => k _ H1 ((e.ext e1).setC (by
    have hpo : p ∉ ows E := fun m => by
      obtain ⟨xs, q⟩ := e.lsts p m
      rw [np] at q
      cases q
    exact .lst (SqL.of (by rw [hid_at hpo]; exact hp)) (h1.clean (e.ext e1).lsts im)))
theorem sd_drop (h : EP K B H0 Z te E d) (k : SD K B H0 Z tNext D E) : SD K B H0 Z (tDrop te) D E := fun σ H e => h σ H e _ fun v H1 e1 _ => k σ H1 (e.ext e1)
theorem sd_ret (h : EP K B H0 Z te E d) (k : RT K B H0 D d) : SD K B H0 Z (tRet te) D E := fun σ H e => h σ H e _ fun v H1 e1 h1 => k v H1 (e.ext e1).ex h1
theorem sd_retN (k : RT K B H0 D .non) : SD K B H0 Z tRetN D E := fun σ H e => k _ H e.ex .non
/-- a new list is handed back -/
def RTF (K : PySem.W.Frag) (B : List Addr) (H0 : Hp) (D : Ends) (l : List Y.D) : Prop := ∀ p vs H, (p ∉ B → H0 p = none) → (∀ a o, a ∉ B → H0 a = some o → H a = some o) → H p = some (.lst vs) → IsAll K H vs l → D.rt (.ref p) H
theorem sd_retF (h : EF K B H0 Z te E l) (k : RTF K B H0 D l) : SD K B H0 Z (tRet te) D E := fun σ H e => h σ H e _ fun p vs H1 np e1 hp h1 => k p vs H1 (fun hb => by
    cases q : H0 p with
    | none => rfl
    | some o =>
      have := e.ex p o hb q
      rw [np] at this
      cases this) (e.ext e1).ex hp h1
theorem sd_retO {i : Nat} {p : Addr} (h : E[i]? = some (.own p l)) (k : RTF K B H0 D l) : SD K B H0 Z (tRet (tVar i)) D E := fun σ H e => by
  obtain ⟨h1, vs, h2, h3⟩ := e.own i p l h
  exact ⟨_, h1, k p vs H (fun hb => (e.fr i p l h).resolve_left hb) e.ex h2 (h3.mono (hid_le _ _))⟩
theorem sd_if (h : ET K B H0 Z t E b) (h1 : b = true → SD K B H0 Z tx D E) (h2 : b = false → SD K B H0 Z ty D E) : SD K B H0 Z (tIfS t tx ty) D E := fun σ H e => h σ H e _ fun H1 e1 => by
  cases b with
  | true => exact h1 rfl σ H1 (e.ext e1)
  | false => exact h2 rfl σ H1 (e.ext e1)
/-- xs.append(e), xs an owned list -/
theorem sd_app {i : Nat} {p : Addr} (hi : E[i]? = some (.own p l)) (h : EP K B H0 Z te E d) (im : d.im = true) (hz : l.length < 100000) (k : SD K B H0 Z tNext D (E.set i (.own p (l ++ [d])))) :
    SD K B H0 Z (tDrop (tBM K "list" rAppend (tVar i) (tCons te tNil))) D E := fun σ H e => by
  obtain ⟨h1, vs, h2, h3⟩ := e.own i p l hi
  refine ⟨_, h1, .inl ⟨rfl, vs, SqL.of h2⟩, h σ H e _ fun v H1 e1 q => ?_⟩
  have e' := e.ext e1
  obtain ⟨_, ws, g2, g3⟩ := e'.own i p l hi
  have : ws = vs := by
    have := e1 p _ h2
    rw [g2] at this
    injection this with this
    injection this
  subst this
  refine ⟨p, ws, v, rfl, rfl, g2, ?_, k σ _ (e'.chg hi (g3.append (.one (q.clean e'.lsts im))))⟩
  rw [g3.length, sizeLine_eq]
  omega

end
end Y
set_option Elab.async false
set_option linter.all false
set_option autoImplicit false
set_option maxRecDepth 100000
/-! Loops and comprehensions, as data. -/
namespace Y
open PySem L2
section
variable {K : PySem.W.Frag} {B : List Addr} {H0 : Hp} {Z : Hp → Prop} {E : List Slot} {ta tb tc te : TE} {t u : TT} {ea : TA} {x y z d : D} {l m : List D} {b c : Bool}
/-- an expression whose value stands apart from what may change -/
def EC (K : PySem.W.Frag) (B : List Addr) (H0 : Hp) (Z : Hp → Prop) (te : TE) (E : List Slot) (d : D) : Prop :=
  ∀ σ H, Env K B H0 Z E σ H → ∀ Q : VK, (∀ v H', Ex H H' → Is K (hid (ows E) H') v d → Q v H') → te σ H Q
theorem ec_im (h : EP K B H0 Z te E d) (im : d.im = true) : EC K B H0 Z te E d := fun σ H e Q q => h σ H e Q fun v H' x h1 => q v H' x (h1.clean (e.ext x).lsts im)
theorem ec_var {i : Nat} (h : E[i]? = some (.val d)) : EC K B H0 Z (tVar i) E d := fun σ H e Q q => by
  obtain ⟨v, h1, h2⟩ := e.val i d h
  exact ⟨v, h1, q v H (Ex.refl H) h2⟩
theorem ec_new (h : EF K B H0 Z te E l) (im : imAll l = true) : EC K B H0 Z te E (.lst l) := fun σ H e Q q => h σ H e Q fun p vs H1 np e1 hp h1 => q _ H1 e1 (by
  have hpo : p ∉ ows E := fun m => by
    obtain ⟨xs, w⟩ := e.lsts p m
    rw [np] at w
    cases w
  exact .lst (SqL.of (by rw [hid_at hpo]; exact hp)) (h1.clean (e.ext e1).lsts im))

theorem map_at {α : Type} {c : α → Y.D} {ts : List α} {i : Nat} {d : Y.D} (h : (ts.map c)[i]? = some d) : ∃ a, ts[i]? = some a ∧ d = c a := by
  rw [List.getElem?_map] at h
  cases e : ts[i]? with
  | none => rw [e] at h; cases h
  | some a => rw [e] at h; exact ⟨a, rfl, (Option.some.inj h).symm⟩
variable {D : Ends} {tu : TS}
/-- the ends of a loop's body: the next turn's state -/
def LE (K : PySem.W.Frag) (B : List Addr) (H0 : Hp) (Z : Hp → Prop) (D : Ends) (E' : List Slot) : Ends :=
  { nx := fun σ H => Env K B H0 Z E' σ H, rt := D.rt, bk := D.nx, ct := fun σ H => Env K B H0 Z E' σ H }
theorem sd_le {E' : List Slot} (h : E = E') : SD K B H0 Z tNext (LE K B H0 Z D E') E := fun σ H e => h ▸ e
theorem sd_ct {E' : List Slot} (h : E = E') : SD K B H0 Z tCont (LE K B H0 Z D E') E := fun σ H e => h ▸ e
theorem sd_forL {α : Type} {j : Nat} (c : α → Y.D) {ts : List α} (h : EC K B H0 Z te E (.lst (ts.map c))) (Ei : Nat → List Slot) (h0 : E = Ei 0)
    (hs : ∀ (Z' : Hp → Prop) i a, ts[i]? = some a → SD K B H0 Z' tu (LE K B H0 Z' D (Ei (i + 1))) ((Ei i).set j (.val (c a))))
    (hd : SD K B H0 Z tNext D (Ei ts.length)) : SD K B H0 Z (tFor (iList K te) (gName j) tu) D E := fun σ H e =>
  h σ H e _ fun v H1 e1 h1 => by
    have e' := e.ext e1
    cases h1 with
    | lst hq ht =>
      rename_i a xs
      refine ⟨a, rfl, ⟨xs, sqL_ex (hid_le _ _) hq⟩, ?_⟩
      have hl : xs.length = ts.length := by rw [ht.length, List.length_map]
      refine for_list (xs := xs) (fun i σ' H' => Env K B H0 (fun H => Z H ∧ SqL K H a xs ∧ IsAll K H xs (ts.map c)) (Ei i) σ' H') ?_ (fun i σ' H' _ p => sqL_ex (hid_le _ _) p.pin.2.1) ?_ ?_
      · rw [← h0]
        exact ⟨e'.ex, e'.inj, e'.fr, e'.len, e'.val, e'.own, ⟨e'.pin, hq, ht⟩, fun x q => ⟨e.zm x q.1, sqL_ex x q.2.1, q.2.2.mono x⟩⟩
      · intro i x σ' H' hx p
        obtain ⟨d, hd1, hd2⟩ := p.pin.2.2.get hx
        obtain ⟨r, hr, rfl⟩ := map_at hd1
        exact hs _ i r hr _ _ (p.setC hd2)
      · intro σ' H' p
        rw [hl] at p
        exact hd _ _ (p.drop e.zm)
theorem sd_forT {α : Type} {j : Nat} (c : α → Y.D) {ts : List α} (h : EC K B H0 Z te E (.tup (ts.map c))) (Ei : Nat → List Slot) (h0 : E = Ei 0)
    (hs : ∀ (Z' : Hp → Prop) i a, ts[i]? = some a → SD K B H0 Z' tu (LE K B H0 Z' D (Ei (i + 1))) ((Ei i).set j (.val (c a))))
    (hd : SD K B H0 Z tNext D (Ei ts.length)) : SD K B H0 Z (tFor (iTup K te) (gName j) tu) D E := fun σ H e =>
  h σ H e _ fun v H1 e1 h1 => by
    have e' := e.ext e1
    cases h1 with
    | tup hq ht =>
      rename_i a xs
      refine ⟨a, rfl, ⟨xs, sqT_ex (hid_le _ _) hq⟩, ?_⟩
      have hl : xs.length = ts.length := by rw [ht.length, List.length_map]
      refine for_tup (xs := xs) (fun i σ' H' => Env K B H0 (fun H => Z H ∧ SqT K H a xs ∧ IsAll K H xs (ts.map c)) (Ei i) σ' H') ?_ (fun i σ' H' _ p => sqT_ex (hid_le _ _) p.pin.2.1) ?_ ?_
      · rw [← h0]
        exact ⟨e'.ex, e'.inj, e'.fr, e'.len, e'.val, e'.own, ⟨e'.pin, hq, ht⟩, fun x q => ⟨e.zm x q.1, sqT_ex x q.2.1, q.2.2.mono x⟩⟩
      · intro i x σ' H' hx p
        obtain ⟨d, hd1, hd2⟩ := p.pin.2.2.get hx
        obtain ⟨r, hr, rfl⟩ := map_at hd1
        exact hs _ i r hr _ _ (p.setC hd2)
      · intro σ' H' p
        rw [hl] at p
        exact hd _ _ (p.drop e.zm)
theorem sd_forR {j : Nat} {n : Int} (h : EA K B H0 Z ea E [.int n]) (hn : 0 ≤ n ∧ n ≤ 100000) (Ei : Nat → List Slot) (h0 : E = Ei 0)
    (hs : ∀ (i : Nat), (i : Int) < n → SD K B H0 Z tu (LE K B H0 Z D (Ei (i + 1))) ((Ei i).set j (.val (.int i))))
    (hd : SD K B H0 Z tNext D (Ei n.toNat)) : SD K B H0 Z (tFor (iRng1 ea) (gName j) tu) D E := fun σ H e =>
  h σ H e _ fun vs H1 e1 h1 => by
    have e' := e.ext e1
    have : vs = [.int n] := by
      cases h1 with
      | cons a t => cases a; cases t; rfl
    subst this
    refine ⟨n, rfl, by omega, by omega, for_range (lo := 0) (n := n.toNat) (fun i σ' H' => Env K B H0 Z (Ei i) σ' H') (h0 ▸ e') (fun i σ' H' hi p => ?_) (fun σ' H' p => hd _ _ p)⟩
    have e0 : (0 : Int) + (i : Int) = (i : Int) := Int.zero_add _
    show tu _ (σ'.set j (some (.int ((0 : Int) + (i : Int))))) H'
    rw [e0]
    exact hs i (by omega) _ _ (p.set (.int _) rfl)
theorem sd_forR2 {j : Nat} {lo n : Int} (h : EA K B H0 Z ea E [.int lo, .int n]) (hn : -100000 ≤ lo ∧ lo ≤ 100000 ∧ -100000 ≤ n ∧ n ≤ 100000) (Ei : Nat → List Slot) (h0 : E = Ei 0)
    (hs : ∀ (i : Nat), lo + (i : Int) < n → SD K B H0 Z tu (LE K B H0 Z D (Ei (i + 1))) ((Ei i).set j (.val (.int (lo + i)))))
    (hd : SD K B H0 Z tNext D (Ei (n - lo).toNat)) : SD K B H0 Z (tFor (iRng2 ea) (gName j) tu) D E := fun σ H e =>
  h σ H e _ fun vs H1 e1 h1 => by
    have e' := e.ext e1
    have : vs = [.int lo, .int n] := by
      cases h1 with
      | cons a t =>
        cases a
        cases t with
        | cons a t => cases a; cases t; rfl
    subst this
    exact ⟨lo, n, rfl, ⟨by omega, by omega, by omega, by omega⟩, for_range (lo := lo) (n := (n - lo).toNat) (fun i σ' H' => Env K B H0 Z (Ei i) σ' H') (h0 ▸ e') (fun i σ' H' hi p => hs i (by omega) _ _ (p.set (.int _) rfl)) (fun σ' H' p => hd _ _ p)⟩

/-! ### comprehensions -/
theorem Env.setNo {σ : L2.St} {H : Hp} (e : Env K B H0 Z E σ H) (i : Nat) : Env K B H0 Z (E.set i .no) (σ.set i none) H := by
  have sb : Ex (hid (ows E) H) (hid (ows (E.set i .no)) H) := hid_sub (ows_sub fun p l z => by cases z)
  have old : ∀ {j : Nat} {s : Slot}, (E.set i .no)[j]? = some s → s ≠ .no → i ≠ j ∧ E[j]? = some s := fun {j s} q hs => by
    rcases set_get q with ⟨_, z, _⟩ | z
    · exact absurd z.symm hs
    · exact z
  refine ⟨e.ex, fun a b p l m h1 h2 => e.inj a b p l m (old h1 (by simp)).2 (old h2 (by simp)).2, fun a p l h1 => e.fr a p l (old h1 (by simp)).2, by simp [e.len], fun j d' q => ?_, fun j p l q => ?_, e.zm sb e.pin, e.zm⟩
  · obtain ⟨hij, q'⟩ := old q (by simp)
    obtain ⟨w, q1, q2⟩ := e.val j d' q'
    exact ⟨w, by rw [List.getElem?_set_ne hij]; exact q1, q2.mono sb⟩
  · obtain ⟨hij, q'⟩ := old q (by simp)
    obtain ⟨q1, vs, q2, q3⟩ := e.own j p l q'
    exact ⟨by rw [List.getElem?_set_ne hij]; exact q1, vs, q2, q3.mono sb⟩
theorem wipe1 (σ : L2.St) (j : Nat) (x : Option V) : wipe ((wipe σ [j]).set j x) [j] = wipe σ [j] := by
  show ((σ.set j none).set j x).set j none = σ.set j none
  rw [List.set_set, List.set_set]
/-- what a comprehension has made so far -/
structure Lcw (K : PySem.W.Frag) (Hb : Hp) (p : Addr) (l : List Y.D) (H' : Hp) : Prop where
  fr : Hb p = none
  ex : Ex Hb H'
  at_ : ∃ acc, H' p = some (.lst acc) ∧ IsAll K (hid [p] H') acc l
theorem lcw_turn {Hb : Hp} {p : Addr} {l : List Y.D} {H' : Hp} {σ2 : L2.St} {c : Bool} {d : Y.D} (w : Lcw K Hb p l H') (hz : l.length < 100000) (im : c = true → d.im = true)
    (ht : ∀ H3, Ex Hb H3 → ∀ Q : Bool → Hp → Prop, (∀ H', Ex H3 H' → Q c H') → t σ2 H3 Q) (he : c = true → ∀ H3, Ex Hb H3 → ∀ Q : VK, (∀ v H', Ex H3 H' → Is K H' v d → Q v H') → te σ2 H3 Q) (N : Hp → Prop)
    (hn : ∀ H4, Lcw K Hb p (if c = true then l ++ [d] else l) H4 → N H4) :
    t σ2 H' fun b H3 => if b = true then te σ2 H3 fun y H4 => ∃ acc, H4 p = some (.lst acc) ∧ acc.length < sizeLine ∧ N (upd H4 p (.lst (acc ++ [y]))) else N H3 := by
  refine ht H' w.ex _ fun H3 e3 => ?_
  obtain ⟨acc, w1, w2⟩ := w.at_
  cases c with
  | true =>
    show te σ2 H3 _
    refine he rfl H3 (w.ex.trans e3) _ fun y H4 e4 hy => ⟨acc, e4 _ _ (e3 _ _ w1), by rw [w2.length, sizeLine_eq]; omega, hn _ ⟨w.fr, fun a o q => ?_, acc ++ [y], upd_same, ?_⟩⟩
    · rw [upd_ne (ne_of_none q w.fr)]
      exact e4 _ _ (e3 _ _ (w.ex _ _ q))
    · have e5 : Ex (hid [p] H4) (hid [p] (upd H4 p (.lst (acc ++ [y])))) := fun a o q => by
        obtain ⟨q1, q2⟩ := hid_some q
        rw [hid_at q1, upd_ne (by simpa using q1)]
        exact q2
      refine ((w2.mono (hid_ex (e3.trans e4))).mono e5).append (.one ((hy.clean (fun a ha => ?_) (im rfl)).mono e5))
      have : a = p := by simpa using ha
      exact ⟨acc, by rw [this]; exact e4 _ _ (e3 _ _ w1)⟩
  | false =>
    show N H3
    exact hn _ ⟨w.fr, w.ex.trans e3, acc, e3 _ _ w1, w2.mono (hid_ex e3)⟩
theorem take_step {α : Type} {l : List α} {i : Nat} {d : α} (h : l[i]? = some d) : l.take (i + 1) = l.take i ++ [d] := by
  rw [List.take_add_one, h]
  rfl
theorem fm_step {α : Type} {l : List α} {i : Nat} {d : α} (f : α → Bool) (g : α → Y.D) (h : l[i]? = some d) :
    ((l.take (i + 1)).filter f).map g = if f d = true then ((l.take i).filter f).map g ++ [g d] else ((l.take i).filter f).map g := by
  rw [take_step h, List.filter_append, List.map_append]
  cases hf : f d <;> simp [hf]
theorem fm_len {α : Type} {l : List α} {i : Nat} (f : α → Bool) (g : α → Y.D) : (((l.take i).filter f).map g).length ≤ l.length := by
  rw [List.length_map]
  have h1 := List.length_filter_le f (l.take i)
  have h2 : (l.take i).length ≤ l.length := by rw [List.length_take]; omega
  omega
theorem ef_lcL {α : Type} {j : Nat} (c : α → Y.D) {ts : List α} (f : α → Bool) (g : α → Y.D) (h : EP K B H0 Z tc E (.lst (ts.map c))) (imc : ∀ a ∈ ts, (c a).im = true) (hz : ts.length < 100000)
    (ht : ∀ a ∈ ts, ET K B H0 Z t ((E.set j .no).set j (.val (c a))) (f a)) (he : ∀ a ∈ ts, f a = true → EP K B H0 Z te ((E.set j .no).set j (.val (c a))) (g a)) (im : ∀ a ∈ ts, f a = true → (g a).im = true) :
    EF K B H0 Z (tLc (iList K tc) (gName j) t te [j]) E ((ts.filter f).map g) := fun σ H e Q q =>
  h σ H e _ fun v H1 e1 h1 => by
    have e' := e.ext e1
    cases h1 with
    | lst hq ha =>
      rename_i r xs
      have hl : xs.length = ts.length := by rw [ha.length, List.length_map]
      refine ⟨r, rfl, ⟨xs, hq⟩, fun p np => ?_⟩
      refine lc_list (xs := xs) (fun i H' => Lcw K H1 p (((ts.take i).filter f).map g) H') ⟨np, Ex.new np, [], upd_same, by simpa using IsAll.nil⟩ (fun i H' _ w => sqL_ex w.ex hq) (fun i x H' hx w => ⟨wipe1 σ j _, ?_⟩) (fun H' w => ?_)
      · obtain ⟨d, hd1, hd2⟩ := ha.get hx
        obtain ⟨a, ha1, rfl⟩ := map_at hd1
        have hdm : a ∈ ts := List.mem_of_getElem? ha1
        have eb : ∀ H3, Ex H1 H3 → Env K B H0 Z ((E.set j .no).set j (.val (c a))) ((wipe σ [j]).set j (some x)) H3 := fun H3 x3 => ((e'.setNo j).set hd2 (imc a hdm)).ext x3
        refine lcw_turn w (Nat.lt_of_le_of_lt (fm_len f g) hz) (im a hdm) (fun H3 x3 => ht a hdm _ _ (eb H3 x3)) (fun hf H3 x3 => he a hdm hf _ _ (eb H3 x3)) _ fun H4 w4 => ?_
        rw [fm_step f g ha1]
        exact w4
      · obtain ⟨acc, w1, w2⟩ := w.at_
        rw [hl, List.take_length] at w2
        exact q p acc H' (e1.back np) (e1.trans w.ex) w1 (w2.mono (hid_le _ _))
theorem ef_lcT {α : Type} {j : Nat} (c : α → Y.D) {ts : List α} (f : α → Bool) (g : α → Y.D) (h : EP K B H0 Z tc E (.tup (ts.map c))) (imc : ∀ a ∈ ts, (c a).im = true) (hz : ts.length < 100000)
    (ht : ∀ a ∈ ts, ET K B H0 Z t ((E.set j .no).set j (.val (c a))) (f a)) (he : ∀ a ∈ ts, f a = true → EP K B H0 Z te ((E.set j .no).set j (.val (c a))) (g a)) (im : ∀ a ∈ ts, f a = true → (g a).im = true) :
    EF K B H0 Z (tLc (iTup K tc) (gName j) t te [j]) E ((ts.filter f).map g) := fun σ H e Q q =>
  h σ H e _ fun v H1 e1 h1 => by
    have e' := e.ext e1
    cases h1 with
    | tup hq ha =>
      rename_i r xs
      have hl : xs.length = ts.length := by rw [ha.length, List.length_map]
      refine ⟨r, rfl, ⟨xs, hq⟩, fun p np => ?_⟩
      refine lc_tup (xs := xs) (fun i H' => Lcw K H1 p (((ts.take i).filter f).map g) H') ⟨np, Ex.new np, [], upd_same, by simpa using IsAll.nil⟩ (fun i H' _ w => sqT_ex w.ex hq) (fun i x H' hx w => ⟨wipe1 σ j _, ?_⟩) (fun H' w => ?_)
      · obtain ⟨d, hd1, hd2⟩ := ha.get hx
        obtain ⟨a, ha1, rfl⟩ := map_at hd1
        have hdm : a ∈ ts := List.mem_of_getElem? ha1
        have eb : ∀ H3, Ex H1 H3 → Env K B H0 Z ((E.set j .no).set j (.val (c a))) ((wipe σ [j]).set j (some x)) H3 := fun H3 x3 => ((e'.setNo j).set hd2 (imc a hdm)).ext x3
        refine lcw_turn w (Nat.lt_of_le_of_lt (fm_len f g) hz) (im a hdm) (fun H3 x3 => ht a hdm _ _ (eb H3 x3)) (fun hf H3 x3 => he a hdm hf _ _ (eb H3 x3)) _ fun H4 w4 => ?_
        rw [fm_step f g ha1]
        exact w4
      · obtain ⟨acc, w1, w2⟩ := w.at_
        rw [hl, List.take_length] at w2
        exact q p acc H' (e1.back np) (e1.trans w.ex) w1 (w2.mono (hid_le _ _))
theorem range_at {n i : Nat} (h : i < n) : (List.range n)[i]? = some i := List.getElem?_range h
theorem ef_lcR {j : Nat} {n : Int} (f : Nat → Bool) (g : Nat → Y.D) (h : EA K B H0 Z ea E [.int n]) (hn : 0 ≤ n ∧ n < 100000)
    (ht : ∀ i : Nat, (i : Int) < n → ET K B H0 Z t ((E.set j .no).set j (.val (.int i))) (f i)) (he : ∀ i : Nat, (i : Int) < n → f i = true → EP K B H0 Z te ((E.set j .no).set j (.val (.int i))) (g i)) (im : ∀ i : Nat, (i : Int) < n → f i = true → (g i).im = true) :
    EF K B H0 Z (tLc (iRng1 ea) (gName j) t te [j]) E (((List.range n.toNat).filter f).map g) := fun σ H e Q q =>
  h σ H e _ fun vs H1 e1 h1 => by
    have e' := e.ext e1
    have : vs = [.int n] := by
      cases h1 with
      | cons a t => cases a; cases t; rfl
    subst this
    refine ⟨n, rfl, by omega, by omega, fun p np => ?_⟩
    refine lc_range (lo := 0) (n := n.toNat) (fun i H' => Lcw K H1 p ((((List.range n.toNat).take i).filter f).map g) H') ⟨np, Ex.new np, [], upd_same, by simpa using IsAll.nil⟩ (fun i H' hi w => ⟨wipe1 σ j _, ?_⟩) (fun H' w => ?_)
    · have hd1 := range_at hi
      have e0 : (0 : Int) + (i : Int) = (i : Int) := Int.zero_add _
      rw [e0]
      have hin : (i : Int) < n := by omega
      have eb : ∀ H3, Ex H1 H3 → Env K B H0 Z ((E.set j .no).set j (.val (.int i))) ((wipe σ [j]).set j (some (.int i))) H3 := fun H3 x3 => ((e'.setNo j).set (.int _) rfl).ext x3
      refine lcw_turn w (Nat.lt_of_le_of_lt (fm_len f g) (by rw [List.length_range]; omega)) (im i hin) (fun H3 x3 => ht i hin _ _ (eb H3 x3)) (fun hf H3 x3 => he i hin hf _ _ (eb H3 x3)) _ fun H4 w4 => ?_
      rw [fm_step f g hd1]
      exact w4
    · obtain ⟨acc, w1, w2⟩ := w.at_
      rw [List.take_of_length_le (by rw [List.length_range]; exact Nat.le_refl _)] at w2
      exact q p acc H' (e1.back np) (e1.trans w.ex) w1 (w2.mono (hid_le _ _))
theorem ef_lcR2 {j : Nat} {lo n : Int} (f : Nat → Bool) (g : Nat → Y.D) (h : EA K B H0 Z ea E [.int lo, .int n]) (hn : -100000 ≤ lo ∧ lo < 100000 ∧ -100000 ≤ n ∧ n < 100000) (hz : n - lo < 100000)
    (ht : ∀ i : Nat, lo + (i : Int) < n → ET K B H0 Z t ((E.set j .no).set j (.val (.int (lo + i)))) (f i)) (he : ∀ i : Nat, lo + (i : Int) < n → f i = true → EP K B H0 Z te ((E.set j .no).set j (.val (.int (lo + i)))) (g i)) (im : ∀ i : Nat, lo + (i : Int) < n → f i = true → (g i).im = true) :
    EF K B H0 Z (tLc (iRng2 ea) (gName j) t te [j]) E (((List.range (n - lo).toNat).filter f).map g) := fun σ H e Q q =>
  h σ H e _ fun vs H1 e1 h1 => by
    have e' := e.ext e1
    have : vs = [.int lo, .int n] := by
      cases h1 with
      | cons a t =>
        cases a
        cases t with
        | cons a t => cases a; cases t; rfl
    subst this
    refine ⟨lo, n, rfl, ⟨by omega, by omega, by omega, by omega⟩, fun p np => ?_⟩
    refine lc_range (lo := lo) (n := (n - lo).toNat) (fun i H' => Lcw K H1 p ((((List.range (n - lo).toNat).take i).filter f).map g) H') ⟨np, Ex.new np, [], upd_same, by simpa using IsAll.nil⟩ (fun i H' hi w => ⟨wipe1 σ j _, ?_⟩) (fun H' w => ?_)
    · have hd1 := range_at hi
      have hin : lo + (i : Int) < n := by omega
      have eb : ∀ H3, Ex H1 H3 → Env K B H0 Z ((E.set j .no).set j (.val (.int (lo + i)))) ((wipe σ [j]).set j (some (.int (lo + i)))) H3 := fun H3 x3 => ((e'.setNo j).set (.int _) rfl).ext x3
      refine lcw_turn w (Nat.lt_of_le_of_lt (fm_len f g) (by rw [List.length_range]; omega)) (im i hin) (fun H3 x3 => ht i hin _ _ (eb H3 x3)) (fun hf H3 x3 => he i hin hf _ _ (eb H3 x3)) _ fun H4 w4 => ?_
      rw [fm_step f g hd1]
      exact w4
    · obtain ⟨acc, w1, w2⟩ := w.at_
      rw [List.take_of_length_le (by rw [List.length_range]; exact Nat.le_refl _)] at w2
      exact q p acc H' (e1.back np) (e1.trans w.ex) w1 (w2.mono (hid_le _ _))
/-! without an if -/
theorem fm_true {α : Type} (l : List α) (g : α → Y.D) : (l.filter fun _ => true).map g = l.map g := by rw [List.filter_eq_self.mpr fun _ _ => rfl]
theorem ef_lcL1 {α : Type} {j : Nat} (c : α → Y.D) {ts : List α} (g : α → Y.D) (h : EP K B H0 Z tc E (.lst (ts.map c))) (imc : ∀ a ∈ ts, (c a).im = true) (hz : ts.length < 100000)
    (he : ∀ a ∈ ts, EP K B H0 Z te ((E.set j .no).set j (.val (c a))) (g a)) (im : ∀ a ∈ ts, (g a).im = true) : EF K B H0 Z (tLc (iList K tc) (gName j) tYes te [j]) E (ts.map g) := by
  rw [← fm_true]
  exact ef_lcL c (fun _ => true) g h imc hz (fun _ _ => et_yes) (fun a ha _ => he a ha) (fun a ha _ => im a ha)
theorem ef_lcT1 {α : Type} {j : Nat} (c : α → Y.D) {ts : List α} (g : α → Y.D) (h : EP K B H0 Z tc E (.tup (ts.map c))) (imc : ∀ a ∈ ts, (c a).im = true) (hz : ts.length < 100000)
    (he : ∀ a ∈ ts, EP K B H0 Z te ((E.set j .no).set j (.val (c a))) (g a)) (im : ∀ a ∈ ts, (g a).im = true) : EF K B H0 Z (tLc (iTup K tc) (gName j) tYes te [j]) E (ts.map g) := by
  rw [← fm_true]
  exact ef_lcT c (fun _ => true) g h imc hz (fun _ _ => et_yes) (fun a ha _ => he a ha) (fun a ha _ => im a ha)
theorem ef_lcR1 {j : Nat} {n : Int} (g : Nat → Y.D) (h : EA K B H0 Z ea E [.int n]) (hn : 0 ≤ n ∧ n < 100000)
    (he : ∀ i : Nat, (i : Int) < n → EP K B H0 Z te ((E.set j .no).set j (.val (.int i))) (g i)) (im : ∀ i : Nat, (i : Int) < n → (g i).im = true) : EF K B H0 Z (tLc (iRng1 ea) (gName j) tYes te [j]) E ((List.range n.toNat).map g) := by
  rw [← fm_true]
  exact ef_lcR (fun _ => true) g h hn (fun _ _ => et_yes) (fun a ha _ => he a ha) (fun a ha _ => im a ha)
theorem ef_lcR21 {j : Nat} {lo n : Int} (g : Nat → Y.D) (h : EA K B H0 Z ea E [.int lo, .int n]) (hn : -100000 ≤ lo ∧ lo < 100000 ∧ -100000 ≤ n ∧ n < 100000) (hz : n - lo < 100000)
    (he : ∀ i : Nat, lo + (i : Int) < n → EP K B H0 Z te ((E.set j .no).set j (.val (.int (lo + i)))) (g i)) (im : ∀ i : Nat, lo + (i : Int) < n → (g i).im = true) : EF K B H0 Z (tLc (iRng2 ea) (gName j) tYes te [j]) E ((List.range (n - lo).toNat).map g) := by
  rw [← fm_true]
  exact ef_lcR2 (fun _ => true) g h hn hz (fun _ _ => et_yes) (fun a ha _ => he a ha) (fun a ha _ => im a ha)
end
end Y
set_option Elab.async false
set_option linter.all false
set_option autoImplicit false
set_option maxRecDepth 100000
/-! The built-in operations, as data. -/
namespace Y
open PySem L2
section
variable {K : PySem.W.Frag} {B : List Addr} {H0 : Hp} {Z : Hp → Prop} {E : List Slot} {ta tb tc te : TE} {t u : TT} {ea : TA} {x y z d : D} {l m : List D} {b c : Bool}
/-! ### ints -/
theorem r2_int {g : Int → Int → Int} {i j : Int} : R2d K (rI0 fun i j => .int (g i j)) (.int i) (.int j) (.int (g i j)) := fun vx vy H hx hy Q q => by
  cases hx; cases hy
  exact ⟨i, j, rfl, rfl, q _ H (Ex.refl H) (.int _)⟩
theorem r2_cmp {g : Int → Int → Bool} {i j : Int} : R2d K (rI0 fun i j => .bl (g i j)) (.int i) (.int j) (.bl (g i j)) := fun vx vy H hx hy Q q => by
  cases hx; cases hy
  exact ⟨i, j, rfl, rfl, q _ H (Ex.refl H) (.bl _)⟩
theorem r2_intC {C : Int → Int → Prop} {g : Int → Int → Int} {i j : Int} (hc : C i j) : R2d K (rI C fun i j => .int (g i j)) (.int i) (.int j) (.int (g i j)) := fun vx vy H hx hy Q q => by
  cases hx; cases hy
  exact ⟨i, j, rfl, rfl, hc, q _ H (Ex.refl H) (.int _)⟩
theorem r2_eqI {i j : Int} : R2d K rEq (.int i) (.int j) (.bl (decide (i = j))) := fun vx vy H hx hy Q q => by
  cases hx; cases hy
  refine ⟨rfl, q _ H (Ex.refl H) ?_⟩
  rw [dec_int]
  exact .bl _
theorem r2_neI {i j : Int} : R2d K rNe (.int i) (.int j) (.bl (!decide (i = j))) := fun vx vy H hx hy Q q => by
  cases hx; cases hy
  refine ⟨rfl, q _ H (Ex.refl H) ?_⟩
  rw [dec_int]
  exact .bl _
theorem r2_eqB {i j : Bool} : R2d K rEq (.bl i) (.bl j) (.bl (decide (i = j))) := fun vx vy H hx hy Q q => by
  cases hx; cases hy
  refine ⟨rfl, q _ H (Ex.refl H) ?_⟩
  rw [dec_bl]
  cases i <;> cases j <;> exact .bl _
theorem r2_neB {i j : Bool} : R2d K rNe (.bl i) (.bl j) (.bl (!decide (i = j))) := fun vx vy H hx hy Q q => by
  cases hx; cases hy
  refine ⟨rfl, q _ H (Ex.refl H) ?_⟩
  rw [dec_bl]
  cases i <;> cases j <;> exact .bl _
theorem r2_eqS {i j : Str} : R2d K rEq (.str i) (.str j) (.bl (decide (i = j))) := fun vx vy H hx hy Q q => by
  cases hx; cases hy
  refine ⟨rfl, q _ H (Ex.refl H) ?_⟩
  have e : decide (V.str i = V.str j) = decide (i = j) := by
    by_cases h : i = j
    · subst h; simp
    · have : ¬ V.str i = V.str j := fun z => h (by injection z)
      simp [h, this]
  rw [e]
  exact .bl _
/-! ### data: flat items -/
def D.fl : D → Bool
  | .non => true | .bl _ => true | .int _ => true | .str _ => true | _ => false
def D.v : D → V
  | .bl b => .bl b | .int i => .int i | .str s => .str s | _ => .non
theorem Is.fl {v : V} {H : Hp} (h : Is K H v d) (f : d.fl = true) : v = d.v ∧ flatV v = true := by
  cases h <;> first | exact ⟨rfl, rfl⟩ | cases f
theorem isAll_fl {H : Hp} : ∀ {vs : List V} {l : List D}, IsAll K H vs l → (∀ d ∈ l, d.fl = true) → vs = l.map D.v ∧ vs.all flatV = true
  | _, _, .nil, _ => ⟨rfl, rfl⟩
  | _, _, .cons h t, f => by
    obtain ⟨h1, h2⟩ := h.fl (f _ List.mem_cons_self)
    obtain ⟨t1, t2⟩ := isAll_fl t fun d hd => f d (List.mem_cons_of_mem _ hd)
    exact ⟨by rw [h1, t1]; rfl, by rw [List.all_cons, h2, t2]; rfl⟩
theorem ints_fl (ns : List Int) : ∀ d ∈ ns.map D.int, d.fl = true := fun d hd => by
  obtain ⟨n, _, rfl⟩ := List.mem_map.mp hd
  rfl
theorem inV_ints (i : Int) : ∀ (ns : List Int), inV (.int i) ((ns.map D.int).map D.v) = decide (i ∈ ns)
  | [] => rfl
  | n :: ns => by
    have ih := inV_ints i ns
    show (eqV (.int n) (.int i) || inV (.int i) ((ns.map D.int).map D.v)) = _
    rw [ih]
    have e : eqV (.int n) (.int i) = decide (i = n) := by
      show (n == i) = _
      by_cases h : i = n
      · simp [h]
      · have : ¬ n = i := fun z => h z.symm
        simp [h, this]
    rw [e, Bool.eq_iff_iff]
    simp
theorem r2_in {neg : Bool} (hx : x.fl = true) (hl : ∀ d ∈ l, d.fl = true) (hy : y = .tup l ∨ y = .lst l) : R2d K (rIn K neg) x y (.bl (if neg then !inV x.v (l.map D.v) else inV x.v (l.map D.v))) := fun vx vy H h1 h2 Q q => by
  obtain ⟨e1, f1⟩ := h1.fl hx
  subst e1
  rcases hy with rfl | rfl
  · obtain ⟨a, xs, rfl, hs, ha⟩ := h2.tup_inv
    obtain ⟨e2, f2⟩ := isAll_fl ha hl
    subst e2
    exact ⟨a, _, rfl, .inr hs, f1, f2, q _ H (Ex.refl H) (.bl _)⟩
  · obtain ⟨a, xs, rfl, hs, ha⟩ := h2.lst_inv
    obtain ⟨e2, f2⟩ := isAll_fl ha hl
    subst e2
    exact ⟨a, _, rfl, .inl hs, f1, f2, q _ H (Ex.refl H) (.bl _)⟩
theorem r2_inI {i : Int} {ns : List Int} (hy : y = .tup (ns.map D.int) ∨ y = .lst (ns.map D.int)) : R2d K (rIn K false) (.int i) y (.bl (decide (i ∈ ns))) := by
  have h := r2_in (K := K) (neg := false) (x := .int i) rfl (ints_fl ns) hy
  simp only [Bool.false_eq_true, if_false] at h
  rw [show (D.int i).v = .int i from rfl, inV_ints] at h
  exact h
theorem r2_ninI {i : Int} {ns : List Int} (hy : y = .tup (ns.map D.int) ∨ y = .lst (ns.map D.int)) : R2d K (rIn K true) (.int i) y (.bl (!decide (i ∈ ns))) := by
  have h := r2_in (K := K) (neg := true) (x := .int i) rfl (ints_fl ns) hy
  simp only [if_true] at h
  rw [show (D.int i).v = .int i from rfl, inV_ints] at h
  exact h
/-! ### lists and tuples -/
theorem r2_ixT {i : Int} (h : atI l i = some d) : R2d K (rIxT K) (.tup l) (.int i) d := fun vx vy H hx hy Q q => by
  cases hy
  obtain ⟨a, xs, rfl, hs, ha⟩ := hx.tup_inv
  unfold atI at h
  cases e : ixN l.length i with
  | none => rw [e] at h; cases h
  | some j =>
    rw [e] at h
    obtain ⟨v, h1, h2⟩ := ha.getD h
    refine ⟨a, xs, i, v, rfl, rfl, hs, ?_, q v H (Ex.refl H) h2⟩
    unfold atI
    rw [ha.length, e]
    exact h1
theorem r2_ixL {i : Int} (h : atI l i = some d) : R2d K (rIxL K) (.lst l) (.int i) d := fun vx vy H hx hy Q q => by
  cases hy
  obtain ⟨a, xs, rfl, hs, ha⟩ := hx.lst_inv
  unfold atI at h
  cases e : ixN l.length i with
  | none => rw [e] at h; cases h
  | some j =>
    rw [e] at h
    obtain ⟨v, h1, h2⟩ := ha.getD h
    refine ⟨a, xs, i, v, rfl, rfl, hs, ?_, q v H (Ex.refl H) h2⟩
    unfold atI
    rw [ha.length, e]
    exact h1
theorem isAll_nil {H : Hp} {xs : List V} (h : IsAll K H xs l) : xs = [] ↔ l = [] := by
  cases h <;> simp
theorem r2_catA (hz : l.length + m.length ≤ 100000) : R2d K (rCatA K) (.tup l) (.tup m) (.tup (l ++ m)) := fun vx vy H hx hy Q q => by
  obtain ⟨a, xs, rfl, hs, ha⟩ := hx.tup_inv
  obtain ⟨b, ys, rfl, ht, hb⟩ := hy.tup_inv
  refine ⟨a, b, xs, ys, rfl, rfl, hs, ht, by rw [ha.length, hb.length, sizeLine_eq]; omega, fun e => ?_, fun e1 e2 => ?_, fun e1 e2 p np => ?_⟩
  · have e' := (isAll_nil ha).mp e
    subst e'
    exact q _ H (Ex.refl H) hy
  · have e' := (isAll_nil hb).mp e2
    subst e'
    rw [List.append_nil] at q
    exact q _ H (Ex.refl H) hx
  · exact q _ _ (Ex.new np) (.tup (SqT.of upd_same) ((ha.append hb).mono (Ex.new np)))
/-- a list that is this def's own or new -/
def EL (K : PySem.W.Frag) (B : List Addr) (H0 : Hp) (Z : Hp → Prop) (te : TE) (E : List Slot) (l : List D) : Prop :=
  ∀ σ H, Env K B H0 Z E σ H → ∀ Q : VK, (∀ p vs H', Ex H H' → H' p = some (.lst vs) → IsAll K H' vs l → Q (.ref p) H') → te σ H Q
theorem el_own {i : Nat} {p : Addr} (h : E[i]? = some (.own p l)) : EL K B H0 Z (tVar i) E l := fun σ H e Q q => by
  obtain ⟨h1, vs, h2, h3⟩ := e.own i p l h
  exact ⟨_, h1, q p vs H (Ex.refl H) h2 (h3.mono (hid_le _ _))⟩
theorem el_new (h : EF K B H0 Z te E l) : EL K B H0 Z te E l := fun σ H e Q q => h σ H e Q fun p vs H' _ x h1 h2 => q p vs H' x h1 h2
theorem ef_cat (ha : EL K B H0 Z ta E l) (hb : EL K B H0 Z tb E m) (hz : l.length + m.length ≤ 100000) : EF K B H0 Z (tOp rCat ta tb) E (l ++ m) := fun σ H e Q q =>
  ha σ H e _ fun p vs H1 e1 h1 i1 => hb σ H1 (e.ext e1) _ fun p' ws H2 e2 h2 i2 => ⟨p, p', vs, ws, rfl, rfl, e2 _ _ h1, h2, by rw [i1.length, i2.length, sizeLine_eq]; omega, fun r nr =>
    q r _ _ ((e1.trans e2).back nr) ((e1.trans e2).trans (Ex.new nr)) upd_same (((i1.mono e2).append i2).mono (Ex.new nr))⟩
theorem ef_rep {k : Int} (ha : EL K B H0 Z ta E l) (hb : EP K B H0 Z tb E (.int k)) (hk : 0 ≤ k ∧ k ≤ 1000 ∧ l.length ≤ 100) : EF K B H0 Z (tOp rRep ta tb) E (List.replicate k.toNat l).flatten := fun σ H e Q q =>
  ha σ H e _ fun p vs H1 e1 h1 i1 => hb σ H1 (e.ext e1) _ fun v H2 e2 h2 => by
    cases h2
    refine ⟨p, k, vs, rfl, rfl, e2 _ _ h1, by omega, by omega, ?_, fun r nr => q r _ _ ((e1.trans e2).back nr) ((e1.trans e2).trans (Ex.new nr)) upd_same (IsAll.mono (Ex.new nr) ?_)⟩
    · have : vs.length * k.toNat ≤ 100 * 1000 := Nat.mul_le_mul (by rw [i1.length]; omega) (by omega)
      rw [sizeLine_eq]
      omega
    · have i2 := i1.mono e2
      clear hk
      induction k.toNat with
      | zero => exact .nil
      | succ n ih => exact i2.append ih
/-! ### built-ins called -/
theorem rc_lenT : RCd K (fun xs H Q => ∃ p ys, xs = [.ref p] ∧ (SqL K H p ys ∨ SqT K H p ys) ∧ Q (.int ys.length) H) [.tup l] (.int l.length) := fun vs H h Q q => by
  cases h with
  | cons h t =>
    cases t
    obtain ⟨a, xs, rfl, hs, ha⟩ := h.tup_inv
    refine ⟨a, xs, rfl, .inr hs, q _ H (Ex.refl H) ?_⟩
    rw [ha.length]
    exact .int _
theorem rc_lenL : RCd K (fun xs H Q => ∃ p ys, xs = [.ref p] ∧ (SqL K H p ys ∨ SqT K H p ys) ∧ Q (.int ys.length) H) [.lst l] (.int l.length) := fun vs H h Q q => by
  cases h with
  | cons h t =>
    cases t
    obtain ⟨a, xs, rfl, hs, ha⟩ := h.lst_inv
    refine ⟨a, xs, rfl, .inl hs, q _ H (Ex.refl H) ?_⟩
    rw [ha.length]
    exact .int _
theorem rc_sum {ns : List Int} : RCd K (rSum K) [.lst (ns.map D.int)] (.int ns.sum) := fun vs H h Q q => by
  cases h with
  | cons h t =>
    cases t
    obtain ⟨a, xs, rfl, hs, ha⟩ := h.lst_inv
    rw [ha.ints] at hs
    exact ⟨a, ns, rfl, hs, q _ H (Ex.refl H) (.int _)⟩
theorem isAll_bls {H : Hp} : ∀ {vs : List V} {bs : List Bool}, IsAll K H vs (bs.map D.bl) → vs = bs.map V.bl
  | _, [], .nil => rfl
  | _, n :: ns, .cons h t => by
    cases h
    rw [isAll_bls t]
    rfl
theorem rc_all {bs : List Bool} : RCd K (rAll K) [.lst (bs.map D.bl)] (.bl (bs.all id)) := fun vs H h Q q => by
  cases h with
  | cons h t =>
    cases t
    obtain ⟨a, xs, rfl, hs, ha⟩ := h.lst_inv
    rw [isAll_bls ha] at hs
    exact ⟨a, bs, rfl, hs, q _ H (Ex.refl H) (.bl _)⟩
theorem rc_any {bs : List Bool} : RCd K (rAny K) [.lst (bs.map D.bl)] (.bl (bs.any id)) := fun vs H h Q q => by
  cases h with
  | cons h t =>
    cases t
    obtain ⟨a, xs, rfl, hs, ha⟩ := h.lst_inv
    rw [isAll_bls ha] at hs
    exact ⟨a, bs, rfl, hs, q _ H (Ex.refl H) (.bl _)⟩
theorem rc_tupleL : RCd K (fun xs H Q => ∃ p ys, xs = [.ref p] ∧ ((SqL K H p ys ∧ ∀ l, H l = none → Q (.ref l) (upd H l (.tup ys))) ∨ (SqT K H p ys ∧ Q (.ref p) H))) [.lst l] (.tup l) := fun vs H h Q q => by
  cases h with
  | cons h t =>
    cases t
    obtain ⟨a, xs, rfl, hs, ha⟩ := h.lst_inv
    exact ⟨a, xs, rfl, .inl ⟨hs, fun p np => q _ _ (Ex.new np) (.tup (SqT.of upd_same) (ha.mono (Ex.new np)))⟩⟩
theorem rc_tupleT : RCd K (fun xs H Q => ∃ p ys, xs = [.ref p] ∧ ((SqL K H p ys ∧ ∀ l, H l = none → Q (.ref l) (upd H l (.tup ys))) ∨ (SqT K H p ys ∧ Q (.ref p) H))) [.tup l] (.tup l) := fun vs H h Q q => by
  cases h with
  | cons h t =>
    cases t
    obtain ⟨a, xs, rfl, hs, ha⟩ := id h.tup_inv
    exact ⟨a, xs, rfl, .inr ⟨hs, q _ H (Ex.refl H) h⟩⟩
theorem rf_list (hy : y = .tup l ∨ y = .lst l) : RCf K (fun xs H Q => ∃ p ys, xs = [.ref p] ∧ (SqL K H p ys ∨ SqT K H p ys) ∧ ∀ l, H l = none → Q (.ref l) (upd H l (.lst ys))) [y] l := fun vs H h Q q => by
  cases h with
  | cons h t =>
    cases t
    rcases hy with rfl | rfl
    · obtain ⟨a, xs, rfl, hs, ha⟩ := h.tup_inv
      exact ⟨a, xs, rfl, .inr hs, fun p np => q p xs _ np (Ex.new np) upd_same (ha.mono (Ex.new np))⟩
    · obtain ⟨a, xs, rfl, hs, ha⟩ := h.lst_inv
      exact ⟨a, xs, rfl, .inl hs, fun p np => q p xs _ np (Ex.new np) upd_same (ha.mono (Ex.new np))⟩
theorem rc_intI {i : Int} : RCd K (fun xs H Q => (∃ i, xs = [.int i] ∧ Q (.int i) H) ∨ ∃ k, xs = [.bl k] ∧ Q (.int (if k then 1 else 0)) H) [.int i] (.int i) := fun vs H h Q q => by
  cases h with
  | cons h t =>
    cases t; cases h
    exact .inl ⟨i, rfl, q _ H (Ex.refl H) (.int _)⟩
theorem rc_intB {b : Bool} : RCd K (fun xs H Q => (∃ i, xs = [.int i] ∧ Q (.int i) H) ∨ ∃ k, xs = [.bl k] ∧ Q (.int (if k then 1 else 0)) H) [.bl b] (.int (if b then 1 else 0)) := fun vs H h Q q => by
  cases h with
  | cons h t =>
    cases t; cases h
    exact .inr ⟨b, rfl, q _ H (Ex.refl H) (.int _)⟩
/-- sorted(ints) -/
def srtI (ns : List Int) : List Int := ns.mergeSort fun a b => decide (a ≤ b)
theorem srtI_eq {ns ms : List Int} (h : ms.Perm ns) (p : ms.Pairwise (· ≤ ·)) : ms = srtI ns := by
  have h2 : (srtI ns).Pairwise (· ≤ ·) := (List.pairwise_mergeSort (le := fun a b : Int => decide (a ≤ b)) (fun a b c h1 h2 => by simp at *; omega) (fun a b => by simp; omega) ns).imp fun h => by simpa using h
  have h3 : ms.Perm (srtI ns) := h.trans (List.mergeSort_perm _ _).symm
  exact List.Perm.eq_of_pairwise (fun a b _ _ h1 h2 => Int.le_antisymm h1 h2) p h2 h3
theorem rf_sortedI {ns : List Int} (hy : y = .lst (ns.map D.int)) : RCf K (rSortedI K) [y] ((srtI ns).map D.int) := fun vs H h Q q => by
  subst hy
  cases h with
  | cons h t =>
    cases t
    obtain ⟨a, xs, rfl, hs, ha⟩ := h.lst_inv
    rw [ha.ints] at hs
    refine ⟨a, ns, rfl, hs, fun ms p h1 h2 np => ?_⟩
    rw [srtI_eq h1 h2]
    exact q p _ _ np (Ex.new np) upd_same ((isAll_ints _).mono (Ex.new np))
end
end Y
set_option Elab.async false
set_option linter.all false
set_option autoImplicit false
set_option maxRecDepth 100000
/-! Tuples of things, tuples and lists of such, their order; == and in at depth. -/
namespace Y
open PySem L2
/-- the numbers as ints -/
def zs (l : List Nat) : List Int := l.map fun (n : Nat) => (n : Int)
/-- a tuple of things; several as a tuple, as a list -/
def tD (l : List Nat) : D := .tup ((zs l).map D.int)
def tsD (ls : List (List Nat)) : D := .tup (ls.map tD)
def lsD (ls : List (List Nat)) : D := .lst (ls.map tD)
def isD (l : List Nat) : D := .lst ((zs l).map D.int)
theorem imAll_ints (l : List Int) : imAll (l.map D.int) = true := by
  rw [imAll_iff]
  intro d hd
  obtain ⟨n, _, rfl⟩ := List.mem_map.mp hd
  rfl
theorem imAll_bls (l : List Bool) : imAll (l.map D.bl) = true := by
  rw [imAll_iff]
  intro d hd
  obtain ⟨n, _, rfl⟩ := List.mem_map.mp hd
  rfl
theorem tD_im (l : List Nat) : (tD l).im = true := by
  show imAll _ = true
  exact imAll_ints _
theorem imAll_tD (ls : List (List Nat)) : imAll (ls.map tD) = true := by
  rw [imAll_iff]
  intro d hd
  obtain ⟨l, _, rfl⟩ := List.mem_map.mp hd
  exact tD_im l
theorem tsD_im (ls : List (List Nat)) : (tsD ls).im = true := imAll_tD ls

mutual
def D.py : D → PyData
  | .bl b => .bool b
  | .int i => .int i
  | .str s => .str s
  | .tup l => .tuple (pyAll l)
  | .lst l => .list (pyAll l)
  | _ => .none
def pyAll : List D → List PyData
  | [] => []
  | d :: l => d.py :: pyAll l
end
/-! data without objects, classes, truth values -/
mutual
def D.pl : D → Bool
  | .ins _ _ _ => false
  | .ty _ => false
  | .adr _ => false
  | .bl _ => false
  | .tup l => plAll l
  | .lst l => plAll l
  | _ => true
def plAll : List D → Bool
  | [] => true
  | d :: l => d.pl && plAll l
end
mutual
theorem Is.dp {K : PySem.W.Frag} {H : Hp} : ∀ {v : V} {d : D}, Is K H v d → d.pl = true → Dp K H v d.py
  | _, _, .non, _ => .non
  | _, _, .bl b, _ => .bl b
  | _, _, .int i, _ => .int i
  | _, _, .str x, _ => .str x
  | _, _, .ty n, p => by simp [D.pl] at p
  | _, _, .adr n, p => by simp [D.pl] at p
  | _, _, .tup h t, p => .tup h (IsAll.dp t (by simpa [D.pl] using p))
  | _, _, .lst h t, p => .lst h (IsAll.dp t (by simpa [D.pl] using p))
  | _, _, .ins h n t, p => by simp [D.pl] at p
theorem IsAll.dp {K : PySem.W.Frag} {H : Hp} : ∀ {vs : List V} {l : List D}, IsAll K H vs l → plAll l = true → DpAll K H vs (pyAll l)
  | _, _, .nil, _ => .nil
  | _, _, .cons h t, p => .cons (Is.dp h (by simp [plAll] at p; exact p.1)) (IsAll.dp t (by simp [plAll] at p; exact p.2))
end
mutual
theorem eqv_pl : ∀ (x y : D), x.pl = true → y.pl = true → (PyData.eqv x.py y.py = true ↔ x = y)
  | .non, .non, _, _ => by simp [D.py, PyData.eqv]
  | .int i, .int j, _, _ => by simp [D.py, PyData.eqv]
  | .str i, .str j, _, _ => by simp [D.py, PyData.eqv]
  | .tup l, .tup m, h1, h2 => by
    have := eqvAll_pl l m (by simpa [D.pl] using h1) (by simpa [D.pl] using h2)
    simp [D.py, PyData.eqv, this]
  | .lst l, .lst m, h1, h2 => by
    have := eqvAll_pl l m (by simpa [D.pl] using h1) (by simpa [D.pl] using h2)
    simp [D.py, PyData.eqv, this]
  | .non, .int _, _, _ => by simp [D.py, PyData.eqv]
  | .non, .str _, _, _ => by simp [D.py, PyData.eqv]
  | .non, .tup _, _, _ => by simp [D.py, PyData.eqv]
  | .non, .lst _, _, _ => by simp [D.py, PyData.eqv]
  | .int _, .non, _, _ => by simp [D.py, PyData.eqv]
  | .int _, .str _, _, _ => by simp [D.py, PyData.eqv]
  | .int _, .tup _, _, _ => by simp [D.py, PyData.eqv]
  | .int _, .lst _, _, _ => by simp [D.py, PyData.eqv]
  | .str _, .non, _, _ => by simp [D.py, PyData.eqv]
  | .str _, .int _, _, _ => by simp [D.py, PyData.eqv]
  | .str _, .tup _, _, _ => by simp [D.py, PyData.eqv]
  | .str _, .lst _, _, _ => by simp [D.py, PyData.eqv]
  | .tup _, .non, _, _ => by simp [D.py, PyData.eqv]
  | .tup _, .int _, _, _ => by simp [D.py, PyData.eqv]
  | .tup _, .str _, _, _ => by simp [D.py, PyData.eqv]
  | .tup _, .lst _, _, _ => by simp [D.py, PyData.eqv]
  | .lst _, .non, _, _ => by simp [D.py, PyData.eqv]
  | .lst _, .int _, _, _ => by simp [D.py, PyData.eqv]
  | .lst _, .str _, _, _ => by simp [D.py, PyData.eqv]
  | .lst _, .tup _, _, _ => by simp [D.py, PyData.eqv]
  | .ins _ _ _, _, h, _ => by simp [D.pl] at h
  | .ty _, _, h, _ => by simp [D.pl] at h
  | .adr _, _, h, _ => by simp [D.pl] at h
  | .bl _, _, h, _ => by simp [D.pl] at h
  | _, .ins _ _ _, _, h => by simp [D.pl] at h
  | _, .ty _, _, h => by simp [D.pl] at h
  | _, .adr _, _, h => by simp [D.pl] at h
  | _, .bl _, _, h => by simp [D.pl] at h
theorem eqvAll_pl : ∀ (l m : List D), plAll l = true → plAll m = true → (PyData.eqvAll (pyAll l) (pyAll m) = true ↔ l = m)
  | [], [], _, _ => by simp [pyAll, PyData.eqvAll]
  | [], _ :: _, _, _ => by simp [pyAll, PyData.eqvAll]
  | _ :: _, [], _, _ => by simp [pyAll, PyData.eqvAll]
  | x :: l, y :: m, h1, h2 => by
    have a := eqv_pl x y (by simp [plAll] at h1; exact h1.1) (by simp [plAll] at h2; exact h2.1)
    have b := eqvAll_pl l m (by simp [plAll] at h1; exact h1.2) (by simp [plAll] at h2; exact h2.2)
    simp [pyAll, PyData.eqvAll, a, b]
end
/-! sizes -/
mutual
def D.dep : D → Nat
  | .tup l => depAll l + 1
  | .lst l => depAll l + 1
  | _ => 0
def depAll : List D → Nat
  | [] => 0
  | d :: l => max d.dep (depAll l)
end
mutual
def D.so : D → Bool
  | .str x => PyData.strOk x
  | .tup l => soAll l
  | .lst l => soAll l
  | _ => true
def soAll : List D → Bool
  | [] => true
  | d :: l => d.so && soAll l
end
mutual
theorem lay_pl : ∀ (d : D), d.so = true → d.py.canLay0 = true ∧ d.py.depth ≤ d.dep
  | .non, _ => by simp [D.py, PyData.canLay0, PyData.depth, D.dep]
  | .bl _, _ => by simp [D.py, PyData.canLay0, PyData.depth, D.dep]
  | .int _, _ => by simp [D.py, PyData.canLay0, PyData.depth, D.dep]
  | .ty _, _ => by simp [D.py, PyData.canLay0, PyData.depth, D.dep]
  | .adr _, _ => by simp [D.py, PyData.canLay0, PyData.depth, D.dep]
  | .ins _ _ _, _ => by simp [D.py, PyData.canLay0, PyData.depth, D.dep]
  | .str x, h => ⟨by simpa [D.py, PyData.canLay0, D.so] using h, by simp [D.py, PyData.depth, D.dep]⟩
  | .tup l, h => by
    obtain ⟨a, b⟩ := layAll_pl l (by simpa [D.so] using h)
    exact ⟨by simpa [D.py, PyData.canLay0] using a, by simp only [D.py, PyData.depth, D.dep]; omega⟩
  | .lst l, h => by
    obtain ⟨a, b⟩ := layAll_pl l (by simpa [D.so] using h)
    exact ⟨by simpa [D.py, PyData.canLay0] using a, by simp only [D.py, PyData.depth, D.dep]; omega⟩
theorem layAll_pl : ∀ (l : List D), soAll l = true → PyData.canLayAll0 (pyAll l) = true ∧ PyData.depthAll (pyAll l) ≤ depAll l
  | [], _ => by simp [pyAll, PyData.canLayAll0, PyData.depthAll]
  | d :: l, h => by
    obtain ⟨a, b⟩ := lay_pl d (by simp [soAll] at h; exact h.1)
    obtain ⟨a', b'⟩ := layAll_pl l (by simp [soAll] at h; exact h.2)
    exact ⟨by simp [pyAll, PyData.canLayAll0, a, a'], by simp only [pyAll, PyData.depthAll, depAll]; omega⟩
end
theorem shaped_pl {d : D} (h : d.so = true) (hd : d.dep ≤ 60) : SeqAt.shaped d.py = true := by
  obtain ⟨a, b⟩ := lay_pl d h
  show (_ && decide _) = true
  rw [a, decide_eq_true (by omega)]
  rfl
/-- data that may be compared: no objects, not deep -/
structure Cmpb (d : D) : Prop where
  pl : d.pl = true
  so : d.so = true
  dep : d.dep ≤ 60
section
variable {K : PySem.W.Frag} {x y d : D} {l : List D}
theorem r2_eqD {b : Bool} (hx : Cmpb x) (hy : Cmpb y) (hb : (b = true ↔ x = y)) : R2d K (rEqD K) x y (.bl b) := fun vx vy H h1 h2 Q q => by
  refine ⟨x.py, y.py, h1.dp hx.pl, h2.dp hy.pl, shaped_pl hx.so hx.dep, shaped_pl hy.so hy.dep, q _ H (Ex.refl H) ?_⟩
  have e : PyData.eqv x.py y.py = b := by
    have := eqv_pl x y hx.pl hy.pl
    rw [Bool.eq_iff_iff, this, hb]
  rw [e]
  exact .bl _
theorem r2_neD {b : Bool} (hx : Cmpb x) (hy : Cmpb y) (hb : (b = true ↔ ¬ x = y)) : R2d K (rNeD K) x y (.bl b) := fun vx vy H h1 h2 Q q => by
  refine ⟨x.py, y.py, h1.dp hx.pl, h2.dp hy.pl, shaped_pl hx.so hx.dep, shaped_pl hy.so hy.dep, q _ H (Ex.refl H) ?_⟩
  have e : (!PyData.eqv x.py y.py) = b := by
    have := eqv_pl x y hx.pl hy.pl
    rw [Bool.eq_iff_iff, hb, ← this]
    cases PyData.eqv x.py y.py <;> simp
  rw [e]
  exact .bl _
theorem any_py {x : D} (hx : x.pl = true) : ∀ {l : List D}, plAll l = true → ((pyAll l).any (fun z => PyData.eqv z x.py) = true ↔ x ∈ l)
  | [], _ => by simp [pyAll]
  | d :: l, h => by
    have a := eqv_pl d x (by simp [plAll] at h; exact h.1) hx
    have b := any_py hx (l := l) (by simp [plAll] at h; exact h.2)
    simp only [pyAll, List.any_cons, Bool.or_eq_true, a, b, List.mem_cons]
    constructor
    · rintro (h | h)
      · exact .inl h.symm
      · exact .inr h
    · rintro (h | h)
      · exact .inl h.symm
      · exact .inr h
theorem r2_inD {b : Bool} (hx : Cmpb x) (hy : Cmpb (.lst l)) (hb : (b = true ↔ x ∈ l)) : R2d K (rInD K) x (.lst l) (.bl b) := fun vx vy H h1 h2 Q q => by
  have p : plAll l = true := by simpa [D.pl] using hy.pl
  refine ⟨x.py, pyAll l, h1.dp hx.pl, ?_, shaped_pl hx.so hx.dep, ?_, q _ H (Ex.refl H) ?_⟩
  · have := h2.dp hy.pl
    simpa [D.py] using this
  · have := shaped_pl hy.so hy.dep
    simpa [D.py] using this
  · have e : ((pyAll l).any fun z => PyData.eqv z x.py) = b := by
      rw [Bool.eq_iff_iff, any_py hx.pl p, hb]
    rw [e]
    exact .bl _
theorem r2_ninD {b : Bool} (hx : Cmpb x) (hy : Cmpb (.lst l)) (hb : (b = true ↔ x ∉ l)) : R2d K (rNotInD K) x (.lst l) (.bl b) := fun vx vy H h1 h2 Q q => by
  have p : plAll l = true := by simpa [D.pl] using hy.pl
  refine ⟨x.py, pyAll l, h1.dp hx.pl, ?_, shaped_pl hx.so hx.dep, ?_, q _ H (Ex.refl H) ?_⟩
  · have := h2.dp hy.pl
    simpa [D.py] using this
  · have := shaped_pl hy.so hy.dep
    simpa [D.py] using this
  · have e : (!(pyAll l).any fun z => PyData.eqv z x.py) = b := by
      have := any_py hx.pl p
      rw [Bool.eq_iff_iff, hb, ← this]
      cases (pyAll l).any fun z => PyData.eqv z x.py <;> simp
    rw [e]
    exact .bl _
end
theorem plAll_iff : ∀ {l : List D}, plAll l = true ↔ ∀ d ∈ l, d.pl = true
  | [] => by simp [plAll]
  | d :: l => by simp [plAll, plAll_iff (l := l)]
theorem soAll_iff : ∀ {l : List D}, soAll l = true ↔ ∀ d ∈ l, d.so = true
  | [] => by simp [soAll]
  | d :: l => by simp [soAll, soAll_iff (l := l)]
theorem depAll_le {n : Nat} : ∀ {l : List D}, depAll l ≤ n ↔ ∀ d ∈ l, d.dep ≤ n
  | [] => by simp [depAll]
  | d :: l => by
    have := depAll_le (n := n) (l := l)
    simp only [depAll, List.mem_cons, forall_eq_or_imp, ← this]
    omega
theorem cmpb_list {l : List D} (h : ∀ d ∈ l, d.pl = true ∧ d.so = true ∧ d.dep ≤ 50) : Cmpb (.lst l) ∧ Cmpb (.tup l) := by
  have a := plAll_iff.mpr fun d hd => (h d hd).1
  have b := soAll_iff.mpr fun d hd => (h d hd).2.1
  have c := depAll_le.mpr fun d hd => (h d hd).2.2
  exact ⟨⟨by simpa [D.pl] using a, by simpa [D.so] using b, by simp only [D.dep]; omega⟩, ⟨by simpa [D.pl] using a, by simpa [D.so] using b, by simp only [D.dep]; omega⟩⟩
theorem tD_ok (l : List Nat) : (tD l).pl = true ∧ (tD l).so = true ∧ (tD l).dep ≤ 1 := by
  have a : ∀ d ∈ (zs l).map D.int, d.pl = true ∧ d.so = true ∧ d.dep ≤ 0 := fun d hd => by
    obtain ⟨n, _, rfl⟩ := List.mem_map.mp hd
    exact ⟨rfl, rfl, Nat.le_refl _⟩
  have p := plAll_iff.mpr fun d hd => (a d hd).1
  have q := soAll_iff.mpr fun d hd => (a d hd).2.1
  have r := depAll_le.mpr fun d hd => (a d hd).2.2
  exact ⟨by simpa [D.pl, tD] using p, by simpa [D.so, tD] using q, by simp only [D.dep, tD]; omega⟩
theorem tD_cmp (l : List Nat) : Cmpb (tD l) := ⟨(tD_ok l).1, (tD_ok l).2.1, by have := (tD_ok l).2.2; omega⟩
theorem lsD_cmp (ls : List (List Nat)) : Cmpb (lsD ls) ∧ Cmpb (tsD ls) := cmpb_list fun d hd => by
  obtain ⟨l, _, rfl⟩ := List.mem_map.mp hd
  obtain ⟨a, b, c⟩ := tD_ok l
  exact ⟨a, b, by omega⟩
theorem map_int_inj {l m : List Nat} : ((zs l).map D.int) = ((zs m).map D.int) ↔ l = m := by
  constructor
  · intro h
    induction l generalizing m with
    | nil => cases m <;> simp_all [zs]
    | cons a l ih =>
      cases m with
      | nil => simp [zs] at h
      | cons b m =>
        simp only [zs, List.map_cons, List.cons.injEq, D.int.injEq] at h
        have h1 : a = b := by omega
        rw [h1, ih h.2]
  · rintro rfl; rfl
theorem tD_inj {l m : List Nat} : tD l = tD m ↔ l = m := by
  unfold tD
  rw [D.tup.injEq, map_int_inj]
theorem map_tD_inj {l m : List (List Nat)} : l.map tD = m.map tD ↔ l = m := by
  constructor
  · intro h
    induction l generalizing m with
    | nil => cases m <;> simp_all
    | cons a l ih =>
      cases m with
      | nil => simp at h
      | cons b m =>
        simp only [List.map_cons, List.cons.injEq, tD_inj] at h
        rw [h.1, ih h.2]
  · rintro rfl; rfl
theorem mem_tD {x : List Nat} {l : List (List Nat)} : tD x ∈ l.map tD ↔ x ∈ l := by
  constructor
  · intro h
    obtain ⟨y, h1, h2⟩ := List.mem_map.mp h
    rw [← tD_inj.mp h2]
    exact h1
  · exact List.mem_map_of_mem
end Y
set_option Elab.async false
set_option linter.all false
set_option autoImplicit false
set_option maxRecDepth 100000
set_option maxHeartbeats 1000000
/-! sorted over tuples of things, of any lengths. -/
namespace Y
open PySem L2 PySem.W PyProof.Rows

def encT (t : List Nat) : PyData := .tuple ((zs t).map .int)
theorem pyAll_ints : ∀ (l : List Int), pyAll (l.map D.int) = l.map PyData.int
  | [] => rfl
  | i :: l => by
    show D.py (.int i) :: pyAll (l.map D.int) = _
    rw [pyAll_ints l]
    rfl
theorem encT_eq (t : List Nat) : (tD t).py = encT t := by
  show PyData.tuple (pyAll _) = _
  rw [pyAll_ints]
  rfl
theorem zs_lt : ∀ (a b : List Nat), zs a < zs b ↔ a < b
  | [], [] => by simp [zs]
  | [], b :: bs => by simp [zs]
  | a :: as, [] => by simp [zs]
  | a :: as, b :: bs => by
    have ih := zs_lt as bs
    show ((a : Int) :: zs as) < ((b : Int) :: zs bs) ↔ _
    rw [List.cons_lt_cons_iff, List.cons_lt_cons_iff, ih]
    constructor
    · rintro (h | ⟨h1, h2⟩)
      · exact .inl (by omega)
      · exact .inr ⟨by omega, h2⟩
    · rintro (h | ⟨h1, h2⟩)
      · exact .inl (by omega)
      · exact .inr ⟨by omega, h2⟩
theorem dataLe_encT : dataLe false encT = fun p q => decide (p ≤ q) := by
  funext p q
  show (!dataLt (encT q) (encT p)) = _
  unfold encT
  rw [dataLt_tuple]
  show (!rowLt ((zs q).map .int) ((zs p).map .int)) = _
  rw [dataLt_ints]
  by_cases h : q < p
  · have h' : ¬ p ≤ q := fun r => List.not_lt.mpr r h
    have h2 := (zs_lt q p).mpr h
    simp [h2, h']
  · have h' : p ≤ q := List.not_lt.mp h
    have h2 : ¬ zs q < zs p := fun z => h ((zs_lt q p).mp z)
    simp [h2, h']
theorem encT_alike (l : List (List Nat)) : AllAlike (l.map encT) := AllAlike.of fun a b => by
  show alike (.tuple _) (.tuple _) = true
  rw [alike]
  exact alike_ints _ _
theorem encT_depth (t : List Nat) : (encT t).depth = 1 := by
  unfold encT
  rw [PyData.depth, depth_ints]
section
variable {prog : Program} {w : World} {A : Around} {s : Shared}
theorem sortsT {vs : List Value} {ts : List (List Nat)} (e : EachIs (fun v t => ∃ as, Reads s.heap v (encT t) as) vs ts) (hk : ts.length ≤ 1 ∨ ∀ t ∈ ts, t ≠ []) (hu : A.units + 1 < cLine) : SortsAt prog w A s (dataKind s.heap (ts.map encT)) vs := by
  have e' := each_map (R := fun v d => ∃ as, Reads s.heap v d as) encT e
  have ub : ∀ d, d ∈ ts.map encT → A.units + d.depth < cLine := fun d hd => by
    obtain ⟨t, _, rfl⟩ := List.mem_map.mp hd
    rw [encT_depth]
    exact hu
  rcases hk with h1 | hn
  · refine ⟨fun v hv => ?_, tuples' true, fun E x y a b Q ha hb hq => ?_, fun h2 => ?_⟩
    · obtain ⟨d, hd, as, r⟩ := e'.left v hv
      exact ⟨_, dataKind_some (encT_alike ts) hd r⟩
    · obtain ⟨d, as, hd, ra, rfl⟩ := dataKind_inv ha
      obtain ⟨d', as', hd', rb, rfl⟩ := dataKind_inv hb
      obtain ⟨p, _, rfl⟩ := List.mem_map.mp hd
      obtain ⟨q, _, rfl⟩ := List.mem_map.mp hd'
      have hq' : Q (dataLt (encT p) (encT q)) s := hq
      unfold encT at hq' ra rb
      rw [dataLt_tuple] at hq'
      cases ra with
      | @tuple l o xs n _ _ h1 h2 h3 h4 =>
        cases rb with
        | @tuple l' o' xs' n' _ _ k1 k2 k3 k4 =>
          have n1 : xs.size = ((zs p).map PyData.int).length := by simpa using SeqAt.ReadsAll.length _ _ _ h4
          have n2 : xs'.size = ((zs q).map PyData.int).length := by simpa using SeqAt.ReadsAll.length _ _ _ k4
          refine kat_lt h1 h3 k1 k3 (katLex_alike _ _ 0 _ _ _ _ h4 k4 (alike_ints _ _) (by rw [depth_ints, depth_ints]; simp; omega) (fun hb _ x r t ex => ?_) (by rw [n1, n2]) hq')
          have : x ∈ (zs p).map PyData.int := by rw [ex]; exact List.mem_cons_self
          obtain ⟨i, _, rfl⟩ := List.mem_map.mp this
          intro z; cases z
    · have := e.length
      omega
  · refine SortsAt.data e' (encT_alike ts) (.inl fun d hd => ?_) ub
    obtain ⟨t, ht, rfl⟩ := List.mem_map.mp hd
    cases t with
    | nil => exact absurd rfl (hn _ ht)
    | cons a r => exact ⟨.int a, (zs r).map .int, rfl⟩
end

/-! the rule -/
def rSortY (K : PySem.W.Frag) : List V → Hp → VK → Prop := fun vs H Q => ∃ (a : Addr) (xs : List V) (ts : List (List Nat)), vs = [V.ref a] ∧ SqL K H a xs ∧ IsAll K H xs (ts.map tD) ∧ (ts.length ≤ 1 ∨ ∀ t ∈ ts, t ≠ []) ∧
  ∀ (p : Addr) (ys : List V), H p = none → IsAll K H ys ((KM.srt ts).map tD) → Q (.ref p) (upd H p (.lst ys))
section
variable {X : Cx} {pins : List (Addr × Obj)} {σ : L2.St} {H : Hp} {s : Shared}
theorem each_of (I : Inv X pins σ H s) : ∀ {xs : List V} {us : List Value} {ts : List (List Nat)}, Vals xs us → IsAll X.K H xs (ts.map tD) →
    EachIs (fun v t => (∃ x : V, RelV x v ∧ Is X.K H x (tD t)) ∧ ∃ as, Reads s.heap v (encT t) as) us ts
  | [], _, [], .nil, _ => .nil
  | x :: xs, _, [], .cons _ _, h => by cases h
  | [], _, t :: ts, _, h => by cases h
  | x :: xs, u :: us, t :: ts, .cons r rt, h => by
    cases h with
    | cons h1 h2 =>
      refine .cons ⟨⟨x, r, h1⟩, ?_⟩ (each_of I rt h2)
      have := Dp.reads I (tD t).py x u (h1.dp (tD_ok t).1) r
      rw [encT_eq] at this
      exact this
theorem vals_of_each {K : PySem.W.Frag} : ∀ {us : List Value} {ts : List (List Nat)}, EachIs (fun v t => (∃ x : V, RelV x v ∧ Is K H x (tD t))) us ts → ∃ xs : List V, Vals xs us ∧ IsAll K H xs (ts.map tD)
  | _, _, .nil => ⟨[], .nil, .nil⟩
  | _, _, .cons ⟨x, r, h⟩ t => by
    obtain ⟨xs, h1, h2⟩ := vals_of_each t
    exact ⟨x :: xs, .cons r h1, .cons h h2⟩
theorem cr_sortY (hu : X.A.units + 64 < cLine) : CallR X (.builtin "sorted") (rSortY X.K) := by
  intro pins s σ H vs us Q I r h
  obtain ⟨a, xs, ts, rfl, hs, ha, hk, q⟩ := h
  obtain ⟨its, rv, hl, hz⟩ := I.list hs
  rw [Vals.ref1 r]
  have e := each_of I rv ha
  have hlen : ts.length ≤ sizeLine := by
    have := ha.length
    rw [List.length_map] at this
    omega
  have er := e.mono fun _ _ h => h.2
  have er' : EachIs (fun v t => ∃ as, Reads (sortingHeap (copyHeap s.heap its) (s.heap.objs.size + 1) its) v (encT t) as) its ts := er.mono fun _ _ ⟨as, r⟩ => ⟨as, PyProof.Rows.Reads.keeps (fun _ _ => sorting_copy_old) r⟩
  have e1 : EachIs (fun v t => ∃ x : V, RelV x v ∧ Is X.K H x (tD t)) its ts := e.mono fun _ _ h => h.1
  refine sorted_vals (κ := dataKind (sortingHeap (copyHeap s.heap its) (s.heap.objs.size + 1) its) (ts.map encT)) hl.isList (sortsT (s := { s with heap := sortingHeap (copyHeap s.heap its) (s.heap.objs.size + 1) its }) er' hk (by show X.A.units + 2 + 1 < cLine; omega)) (by rw [e.length]; exact hlen) ?_
  have eo := sortVals_data (R := fun v t => ∃ x : V, RelV x v ∧ Is X.K H x (tD t)) false e1 er' (encT_alike ts)
  rw [dataLe_encT] at eo
  obtain ⟨ys, y1, y2⟩ := vals_of_each eo
  obtain ⟨out, hout⟩ : ∃ out, out = sortVals (dataKind (sortingHeap (copyHeap s.heap its) (s.heap.objs.size + 1) its) (ts.map encT)) false its its := ⟨_, rfl⟩
  rw [← hout] at y1 ⊢
  obtain ⟨ep, he'⟩ := PyProof.Rows.sortedAll_at s.heap its out.toArray
  have hyl : ys.length ≤ sizeLine := by
    have := y2.length
    rw [List.length_map, (List.mergeSort_perm _ _).length_eq] at this
    omega
  exact ⟨.ref _, upd H (s.heap.objs.size + 1) (.lst ys), I.laid (t' := s.toks) (fun _ _ => PyProof.Rows.sortedAll_old) (Nat.le_succ _) ⟨hyl, out, ep, y1, he'⟩, rfl, q _ ys (I.hok.fresh (Nat.le_succ _)) y2⟩
end
section
variable {K : PySem.W.Frag}
theorem rf_sortY {ts : List (List Nat)} (hk : ts.length ≤ 1 ∨ ∀ t ∈ ts, t ≠ []) : RCf K (rSortY K) [lsD ts] ((KM.srt ts).map tD) := fun vs H h Q q => by
  cases h with
  | cons h t =>
    cases t
    obtain ⟨a, xs, rfl, hs, ha⟩ := h.lst_inv
    exact ⟨a, xs, ts, rfl, hs, ha, hk, fun p ys np hy => q p ys _ np (Ex.new np) upd_same (hy.mono (Ex.new np))⟩
end
end Y
set_option Elab.async false
set_option linter.all false
set_option autoImplicit false
set_option maxRecDepth 100000
set_option maxHeartbeats 1000000
/-! Promises as data, calls, defs. -/
namespace Y
open PySem L2

/-- the promise: from the data ds the datum d (what pre says) -/
def Pure (K : PySem.W.Frag) (pre : List D → D → Prop) : Sp := fun vs H Q _ => ∃ ds d, IsAll K H vs ds ∧ pre ds d ∧ ∀ v H', Ex H H' → Is K H' v d → Q v H'
/-- .. a new list -/
def Fresh (K : PySem.W.Frag) (pre : List D → List D → Prop) : Sp := fun vs H Q _ => ∃ ds l, IsAll K H vs ds ∧ pre ds l ∧ ∀ p ws H', H p = none → Ex H H' → H' p = some (.lst ws) → IsAll K H' ws l → Q (.ref p) H'

/-- a def by its name, called where it raises nothing -/
structure Cl (P : Program) (w : World) (K : PySem.W.Frag) (mg : Str → Option Value) (base : Heap) (k : Nat) (x : Str) (sp : Sp) : Prop where
  ex : ∃ (f : Addr) (fd : FuncData) (ps : List Str), (FnOk P w K mg base CX0 k f fd ps sp ∨ FnOk P w K mg base (L2.CX P w) k f fd ps sp) ∧ mg x = some (.ref f) ∧ PySem.W.keepIn K (.ref f) = true ∧ Binds K fd ps []
section
variable {X : Cx} {k j : Nat} {C : Addr} {x m : Str} {sp : Sp} {p pos apos : Pos} {e o : Expr} {es : List Expr} {ta : TE} {t : TA}
theorem pe_cl (c : Cl X.prog X.w X.K X.mg X.base k x sp) (hr : Room j X.A) (hk : k ≤ j) (hg : Gl X x) (ha : PA X (e :: es) t)
    (hdb : (x == ("__debug__" : Str)) = false := by decide) (he : starEach (e :: es) X.env = (false, eval e X.env) :: starEach es X.env := by rfl) (hpl : (backTo pos (starEach es X.env)).any (·.1) = false := by rfl) :
    PE X (.Call (.Name x p) (e :: es) [] pos) (tCall sp [] E0 t) := by
  obtain ⟨f, fd, ps, F, hm, kp, b⟩ := c.ex
  rcases F with F | F
  · exact pe_call F (hr.mono hk) hg hm kp b .nil pass0 ha hdb he hpl
  · exact pe_call F (hr.mono hk) hg hm kp b .nil passL ha hdb he hpl
theorem pe_cl0 (c : Cl X.prog X.w X.K X.mg X.base k x sp) (hr : Room j X.A) (hk : k ≤ j) (hg : Gl X x)
    (hdb : (x == ("__debug__" : Str)) = false := by decide) : PE X (.Call (.Name x p) [] [] pos) (tCall sp [] E0 tNil) := by
  obtain ⟨f, fd, ps, F, hm, kp, b⟩ := c.ex
  rcases F with F | F
  · exact pe_call0 F (hr.mono hk) hg hm kp b .nil pass0 hdb
  · exact pe_call0 F (hr.mono hk) hg hm kp b .nil passL hdb
end

section
variable {K : PySem.W.Frag} {B : List Addr} {H0 : Hp} {Z : Hp → Prop} {E : List Slot} {ea : TA} {d : D} {l m : List D} {ex : XK}
theorem ep_call {pre : List D → D → Prop} (h : EA K B H0 Z ea E l) (hp : pre l d) : EP K B H0 Z (tCall (Pure K pre) [] ex ea) E d := fun σ H e Q q =>
  h σ H e _ fun vs H1 e1 h1 => ⟨l, d, by rw [List.append_nil]; exact h1, hp, fun v H2 e2 h2 => q v H2 (e1.trans e2) h2⟩
theorem ef_call {pre : List D → List D → Prop} (h : EA K B H0 Z ea E l) (hp : pre l m) : EF K B H0 Z (tCall (Fresh K pre) [] ex ea) E m := fun σ H e Q q =>
  h σ H e _ fun vs H1 e1 h1 => ⟨l, m, by rw [List.append_nil]; exact h1, hp, fun p ws H2 np e2 hp2 h2 => q p ws H2 (e1.back np) (e1.trans e2) hp2 h2⟩
/-- a def's entry -/
def entry (N : List Str) (ds : List D) : List Slot := ds.map .val ++ List.replicate (N.length - ds.length) .no
theorem ows_entry (N : List Str) (ds : List D) : ows (entry N ds) = [] := by
  refine List.eq_nil_iff_forall_not_mem.mpr fun p hp => ?_
  obtain ⟨i, l, h⟩ := mem_ows.mp hp
  have hm := List.mem_of_getElem? h
  unfold entry at hm
  rcases List.mem_append.mp hm with h | h
  · obtain ⟨_, _, h⟩ := List.mem_map.mp h
    cases h
  · have := (List.mem_replicate.mp h).2
    cases this
theorem env_entry {N : List Str} {vs : List V} {ds : List D} {H : Hp} (h : IsAll K H vs ds) (hN : ds.length ≤ N.length) : Env K [] H (fun _ => True) (entry N ds) (start N vs) H := by
  have hl := h.length
  have no : ∀ (i : Nat) (p : Addr) (l : List D), (entry N ds)[i]? = some (.own p l) → False := fun i p l q => by
    have : p ∈ ows (entry N ds) := mem_ows.mpr ⟨i, l, q⟩
    rw [ows_entry] at this
    cases this
  refine ⟨fun a o _ q => q, fun i j p l m h1 h2 => (no i p l h1).elim, fun i p l q => (no i p l q).elim, ?_, fun i d q => ?_, fun i p l q => (no i p l q).elim, trivial, fun _ _ => trivial⟩
  · simp [L2.start, entry, hl]
  · rw [ows_entry, hid_nil]
    unfold entry at q
    by_cases hi : i < ds.length
    · rw [List.getElem?_append_left (by simpa using hi), List.getElem?_map] at q
      cases e : ds[i]? with
      | none => rw [e] at q; cases q
      | some d' =>
        rw [e] at q
        have : d' = d := by simpa using q
        subst this
        obtain ⟨v, h1, h2⟩ := h.getD e
        refine ⟨v, ?_, h2⟩
        unfold L2.start
        rw [List.getElem?_append_left (by simpa [hl] using hi), List.getElem?_map, h1]
        rfl
    · rw [List.getElem?_append_right (by simpa using hi)] at q
      have := List.mem_of_getElem? q
      have := (List.mem_replicate.mp this).2
      cases this
end

/-- the ends of a pure def's body -/
structure Ok (K : PySem.W.Frag) (H : Hp) (D : Ends) (d : Y.D) : Prop where
  rt : RT K [] H D d
  nx : d = .non → ∀ σ H', Ex H H' → D.nx σ H'
theorem sd_end {K : PySem.W.Frag} {H : Hp} {Z : Hp → Prop} {E : List Slot} {D : Ends} (o : Ok K H D .non) : SD K [] H Z tNext D E := fun σ H' e => o.nx rfl σ H' fun a u q => e.ex a u (by simp) q
section
variable {P : Program} {w : World} {K : PySem.W.Frag} {mg : Str → Option Value} {base : Heap}
theorem pure_ok {x qual : Str} {st : Stmt} {f : Addr} {fd : FuncData} {N ps : List Str} {k : Nat} {pre : List D → D → Prop} (F : Fun K x qual st f fd) (S : FnScope N ps (defScope st)) (len : ∀ ds d, pre ds d → ds.length = ps.length) (hN : ps.length ≤ N.length)
    (hb : ∀ (cdv : Value) (A : Around) (outer : List PySem.Env) (s : Shared) (H : Hp) (E : XK), Room k (A.deeper (PyProof.Rows.envOfC qual (defScope st) s.heap.objs.size f cdv)) →
      ∃ t, PSs (cxOf CX0 P w K mg base N qual (defScope st) f cdv A outer s H E).nox (defBody st) t ∧ ∀ ds d, pre ds d → ∀ D : Ends, Ok K H D d → SD K [] H (fun _ => True) t D (entry N ds)) :
    FnOk P w K mg base CX0 (k + 1) f fd ps (Pure K pre) := by
  refine F.ok S (fun vs H Q E h => ?_) (fun cdv A outer s H vs Q E hr h => ?_)
  · obtain ⟨ds, d, h1, h2, _⟩ := h
    rw [h1.length]
    exact len ds d h2
  · obtain ⟨t, ht, hs⟩ := hb cdv A outer s H E hr
    refine ⟨t, ht, ?_⟩
    obtain ⟨ds, d, h1, h2, h3⟩ := h
    refine hs ds d h2 _ ⟨fun v H' e i => h3 v H' (fun a o q => e a o (by simp) q) i, fun hd σ H' e => h3 .non H' e (hd ▸ .non)⟩ _ _ (env_entry h1 ?_)
    have := len ds d h2
    omega
/-- the ends of a def that hands back a new list -/
structure OkF (K : PySem.W.Frag) (H : Hp) (D : Ends) (l : List Y.D) : Prop where
  rt : RTF K [] H D l
theorem fresh_ok {x qual : Str} {st : Stmt} {f : Addr} {fd : FuncData} {N ps : List Str} {k : Nat} {pre : List D → List D → Prop} (F : Fun K x qual st f fd) (S : FnScope N ps (defScope st)) (len : ∀ ds d, pre ds d → ds.length = ps.length) (hN : ps.length ≤ N.length)
    (hb : ∀ (cdv : Value) (A : Around) (outer : List PySem.Env) (s : Shared) (H : Hp) (E : XK), Room k (A.deeper (PyProof.Rows.envOfC qual (defScope st) s.heap.objs.size f cdv)) →
      ∃ t, PSs (cxOf CX0 P w K mg base N qual (defScope st) f cdv A outer s H E).nox (defBody st) t ∧ ∀ ds l, pre ds l → ∀ D : Ends, OkF K H D l → SD K [] H (fun _ => True) t D (entry N ds)) :
    FnOk P w K mg base CX0 (k + 1) f fd ps (Fresh K pre) := by
  refine F.ok S (fun vs H Q E h => ?_) (fun cdv A outer s H vs Q E hr h => ?_)
  · obtain ⟨ds, d, h1, h2, _⟩ := h
    rw [h1.length]
    exact len ds d h2
  · obtain ⟨t, ht, hs⟩ := hb cdv A outer s H E hr
    refine ⟨t, ht, ?_⟩
    obtain ⟨ds, l, h1, h2, h3⟩ := h
    refine hs ds l h2 _ ⟨fun p ws H' np e hp i => h3 p ws H' (np (by simp)) (fun a o q => e a o (by simp) q) hp i⟩ _ _ (env_entry h1 ?_)
    have := len ds l h2
    omega
end
end Y
set_option Elab.async false
set_option linter.all false
set_option autoImplicit false
set_option maxRecDepth 100000
set_option maxHeartbeats 1000000
/-! Numbers that are not negative; slots forgotten. -/
namespace Y
open PySem L2
/-- a number -/
abbrev iD (n : Nat) : D := .int (n : Int)
/-- a list of numbers -/
def nD (l : List Nat) : D := .lst (l.map iD)
theorem tD_eq (l : List Nat) : tD l = .tup (l.map iD) := by
  show D.tup ((zs l).map D.int) = _
  rw [zs, List.map_map]
  rfl
theorem nD_eq (l : List Nat) : nD l = .lst ((zs l).map D.int) := by
  show D.lst _ = _
  rw [zs, List.map_map]
  rfl
theorem imAll_nD (l : List Nat) : imAll (l.map iD) = true := by
  rw [imAll_iff]
  intro d hd
  obtain ⟨n, _, rfl⟩ := List.mem_map.mp hd
  rfl
theorem imAll_append {l m : List D} (a : imAll l = true) (b : imAll m = true) : imAll (l ++ m) = true := by
  rw [imAll_iff] at *
  intro d hd
  rcases List.mem_append.mp hd with h | h
  · exact a d h
  · exact b d h
theorem imAll_map {α : Type} {c : α → D} (h : ∀ a, (c a).im = true) (l : List α) : imAll (l.map c) = true := by
  rw [imAll_iff]
  intro d hd
  obtain ⟨a, _, rfl⟩ := List.mem_map.mp hd
  exact h a
section
variable {K : PySem.W.Frag} {B : List Addr} {H0 : Hp} {Z : Hp → Prop} {E E' : List Slot} {ta tb tc te : TE} {t u : TT} {ea : TA} {x y z d : D} {l m : List D} {a b c : Nat} {ns : List Nat}
theorem r2_and : R2d K (rI0 fun i j => .int (Builtin.bitAnd i j)) (iD a) (iD b) (iD (a &&& b)) := by
  have h := r2_int (K := K) (g := fun i j => Builtin.bitAnd i j) (i := (a : Int)) (j := (b : Int))
  have e : Builtin.bitAnd (a : Int) (b : Int) = ((a &&& b : Nat) : Int) := PySem.W.os_band a b
  rw [e] at h
  exact h
theorem r2_or : R2d K (rI0 fun i j => .int (Builtin.bitOr i j)) (iD a) (iD b) (iD (a ||| b)) := by
  have h := r2_int (K := K) (g := fun i j => Builtin.bitOr i j) (i := (a : Int)) (j := (b : Int))
  have e : Builtin.bitOr (a : Int) (b : Int) = ((a ||| b : Nat) : Int) := by
    rw [bitOr_nn (Int.natCast_nonneg _) (Int.natCast_nonneg _), Int.toNat_natCast, Int.toNat_natCast]
  rw [e] at h
  exact h
theorem r2_shl1 (h : a < 100000) : R2d K (rI CShl fun i j => .int (i * 2 ^ j.toNat)) (.int 1) (iD a) (iD (2 ^ a)) := by
  have h := r2_intC (K := K) (C := CShl) (g := fun i j => i * 2 ^ j.toNat) (i := 1) (j := (a : Int)) (shl_ok (n := 2) (by decide) (by omega))
  have e : (1 : Int) * 2 ^ ((a : Int)).toNat = ((2 ^ a : Nat) : Int) := by simp
  rw [e] at h
  exact h
theorem r2_shr : R2d K (rI (fun _ j => 0 ≤ j) fun i j => .int (i / 2 ^ j.toNat)) (iD a) (iD b) (iD (a >>> b)) := by
  have h := r2_intC (K := K) (C := fun _ j => 0 ≤ j) (g := fun i j => i / 2 ^ j.toNat) (i := (a : Int)) (j := (b : Int)) (Int.natCast_nonneg _)
  have e : (a : Int) / 2 ^ ((b : Int)).toNat = ((a >>> b : Nat) : Int) := by simp [Nat.shiftRight_eq_div_pow]
  rw [e] at h
  exact h
theorem dec_cast {a b : Nat} : decide ((a : Int) = (b : Int)) = (a == b) := by
  by_cases h : a = b
  · subst h; simp
  · have h2 : ¬ (a : Int) = (b : Int) := by omega
    simp [h, h2]
theorem r2_eqN : R2d K rEq (iD a) (iD b) (.bl (a == b)) := by
  have h := r2_eqI (K := K) (i := (a : Int)) (j := (b : Int))
  rw [dec_cast] at h
  exact h
theorem r2_neN : R2d K rNe (iD a) (iD b) (.bl (a != b)) := by
  have h := r2_neI (K := K) (i := (a : Int)) (j := (b : Int))
  rw [dec_cast] at h
  exact h
theorem ep_nat {n : Nat} : EP K B H0 Z (tC (.int (n : Int))) E (iD n) := ep_int
theorem ep_n0 : EP K B H0 Z (tC (.int 0)) E (iD 0) := ep_int
theorem ep_n1 : EP K B H0 Z (tC (.int 1)) E (iD 1) := ep_int
theorem zs_sort (l : List Nat) : srtI (zs l) = zs (KM.sortN l) := by
  unfold srtI KM.sortN zs
  exact (List.map_mergeSort (r := fun a b => decide (a ≤ b)) (s := fun a b : Int => decide (a ≤ b)) (f := fun (n : Nat) => (n : Int)) (fun a _ b _ => by simp)).symm
theorem rf_sortedN : RCf K (rSortedI K) [nD ns] ((KM.sortN ns).map iD) := by
  have h := rf_sortedI (K := K) (y := nD ns) (ns := zs ns) (nD_eq ns)
  rw [zs_sort] at h
  have e : (zs (KM.sortN ns)).map D.int = (KM.sortN ns).map iD := by
    rw [zs, List.map_map]
    rfl
  rw [e] at h
  exact h
theorem rc_allN {bs : List Nat} {p : Nat → Bool} : RCd K (rAll K) [.lst (bs.map fun n => .bl (p n))] (.bl (bs.all p)) := by
  have h := rc_all (K := K) (bs := bs.map p)
  rw [List.map_map] at h
  have e : (bs.map p).all id = bs.all p := by rw [List.all_map]; rfl
  rw [e] at h
  exact h
theorem rc_allL {α : Type} {bs : List α} {p : α → Bool} : RCd K (rAll K) [.lst (bs.map fun n => .bl (p n))] (.bl (bs.all p)) := by
  have h := rc_all (K := K) (bs := bs.map p)
  rw [List.map_map] at h
  have e : (bs.map p).all id = bs.all p := by rw [List.all_map]; rfl
  rw [e] at h
  exact h
theorem rc_anyL {α : Type} {bs : List α} {p : α → Bool} : RCd K (rAny K) [.lst (bs.map fun n => .bl (p n))] (.bl (bs.any p)) := by
  have h := rc_any (K := K) (bs := bs.map p)
  rw [List.map_map] at h
  have e : (bs.map p).any id = bs.any p := by rw [List.any_map]; rfl
  rw [e] at h
  exact h
theorem rc_lenLn {α : Type} {bs : List α} {g : α → D} : RCd K (fun xs H Q => ∃ p ys, xs = [.ref p] ∧ (SqL K H p ys ∨ SqT K H p ys) ∧ Q (.int ys.length) H) [.lst (bs.map g)] (iD bs.length) := by
  have h := rc_lenL (K := K) (l := bs.map g)
  rw [List.length_map] at h
  exact h
theorem rc_lenTn {α : Type} {bs : List α} {g : α → D} : RCd K (fun xs H Q => ∃ p ys, xs = [.ref p] ∧ (SqL K H p ys ∨ SqT K H p ys) ∧ Q (.int ys.length) H) [.tup (bs.map g)] (iD bs.length) := by
  have h := rc_lenT (K := K) (l := bs.map g)
  rw [List.length_map] at h
  exact h
/-- x.bit_length() -/
theorem ep_bits (h : EP K B H0 Z te E (iD a)) : EP K B H0 Z (tBits te) E (iD (KM.bitLen a)) := fun σ H e Q q => h σ H e _ fun v H1 e1 h1 => by
  cases h1
  refine ⟨_, rfl, ?_⟩
  have e : Builtin.Int.intBits (a : Int) = KM.bitLen a := by
    unfold Builtin.Int.intBits KM.bitLen
    by_cases h : a = 0
    · subst h; rfl
    · have : ¬ (a : Int) = 0 := by omega
      simp [h, this]
  rw [e]
  exact q _ H1 e1 (.int _)
/-! slots forgotten -/
inductive LeE : List Slot → List Slot → Prop
  | nil : LeE [] []
  | eq {s : Slot} {E E' : List Slot} : LeE E E' → LeE (s :: E) (s :: E')
  | no {s : Slot} {E E' : List Slot} : LeE E E' → LeE (s :: E) (.no :: E')
theorem LeE.refl : ∀ (E : List Slot), LeE E E
  | [] => .nil
  | _ :: E => .eq (LeE.refl E)
theorem LeE.at_ : ∀ {E E' : List Slot}, LeE E E' → E.length = E'.length ∧ ∀ (i : Nat) (s : Slot), E'[i]? = some s → s = .no ∨ E[i]? = some s
  | _, _, .nil => ⟨rfl, fun i s h => by simp at h⟩
  | _, _, .eq h => ⟨by simp [h.at_.1], fun i s q => by
    cases i with
    | zero => exact .inr q
    | succ i => exact h.at_.2 i s (by simpa using q) |>.imp id (by simpa using ·)⟩
  | _, _, .no h => ⟨by simp [h.at_.1], fun i s q => by
    cases i with
    | zero => simp at q; exact .inl q.symm
    | succ i => exact h.at_.2 i s (by simpa using q) |>.imp id (by simpa using ·)⟩
theorem Env.le {σ : L2.St} {H : Hp} (e : Env K B H0 Z E σ H) (h : LeE E E') : Env K B H0 Z E' σ H := by
  obtain ⟨hl, ha⟩ := h.at_
  have own : ∀ {i : Nat} {p : Addr} {l : List D}, E'[i]? = some (.own p l) → E[i]? = some (.own p l) := fun {i p l} q => (ha i _ q).resolve_left (by simp)
  have sb : Ex (hid (ows E) H) (hid (ows E') H) := hid_sub fun a m => by
    obtain ⟨i, l, q⟩ := mem_ows.mp m
    exact mem_ows.mpr ⟨i, l, own q⟩
  refine ⟨e.ex, fun i j p l m h1 h2 => e.inj i j p l m (own h1) (own h2), fun i p l h1 => e.fr i p l (own h1), by rw [e.len, hl], fun i d q => ?_, fun i p l q => ?_, e.zm sb e.pin, e.zm⟩
  · obtain ⟨v, h1, h2⟩ := e.val i d ((ha i _ q).resolve_left (by simp))
    exact ⟨v, h1, h2.mono sb⟩
  · obtain ⟨h1, vs, h2, h3⟩ := e.own i p l (own q)
    exact ⟨h1, vs, h2, h3.mono sb⟩
variable {De : Ends}
theorem sd_leF (h : LeE E E') : SD K B H0 Z tNext (LE K B H0 Z De E') E := fun σ H e => e.le h
theorem sd_ctF (h : LeE E E') : SD K B H0 Z tCont (LE K B H0 Z De E') E := fun σ H e => e.le h
theorem sd_weak {tx : TS} (h : LeE E E') (k : SD K B H0 Z tx De E') : SD K B H0 Z tx De E := fun σ H e => k σ H (e.le h)
end
end Y
set_option Elab.async false
set_option linter.all false
set_option autoImplicit false
set_option maxRecDepth 100000
set_option maxHeartbeats 1000000
/-! Loops that may be left early: a fact carried from turn to turn; tuples and lists of a range. -/
namespace Y
open PySem L2
section
variable {K : PySem.W.Frag} {B : List Addr} {H0 : Hp} {Z : Hp → Prop} {E E' : List Slot} {ta tb tc te : TE} {t u : TT} {ea : TA} {x y z d : D} {l m : List D} {b c : Bool}
variable {De : Ends} {tu : TS}
/-- as LE, with a fact -/
def LP (K : PySem.W.Frag) (B : List Addr) (H0 : Hp) (Z : Hp → Prop) (De : Ends) (p : Prop) (E' : List Slot) : Ends :=
  { nx := fun σ H => p ∧ Env K B H0 Z E' σ H, rt := De.rt, bk := De.nx, ct := fun σ H => p ∧ Env K B H0 Z E' σ H }
theorem sd_lp {p : Prop} (hp : p) (h : LeE E E') : SD K B H0 Z tNext (LP K B H0 Z De p E') E := fun σ H e => ⟨hp, e.le h⟩
theorem sd_forLP {α : Type} {j : Nat} (c : α → D) {ts : List α} (Pi : Nat → Prop) (h : EC K B H0 Z te E (.lst (ts.map c))) (Ei : Nat → List Slot) (h0 : E = Ei 0) (p0 : Pi 0)
    (hs : ∀ (Z' : Hp → Prop) i a, ts[i]? = some a → Pi i → SD K B H0 Z' tu (LP K B H0 Z' De (Pi (i + 1)) (Ei (i + 1))) ((Ei i).set j (.val (c a))))
    (hd : Pi ts.length → SD K B H0 Z tNext De (Ei ts.length)) : SD K B H0 Z (tFor (iList K te) (gName j) tu) De E := fun σ H e =>
  h σ H e _ fun v H1 e1 h1 => by
    have e' := e.ext e1
    cases h1 with
    | lst hq ht =>
      rename_i a xs
      refine ⟨a, rfl, ⟨xs, sqL_ex (hid_le _ _) hq⟩, ?_⟩
      have hl : xs.length = ts.length := by rw [ht.length, List.length_map]
      refine for_list (xs := xs) (fun i σ' H' => Pi i ∧ Env K B H0 (fun H => Z H ∧ SqL K H a xs ∧ IsAll K H xs (ts.map c)) (Ei i) σ' H') ?_ (fun i σ' H' _ p => sqL_ex (hid_le _ _) p.2.pin.2.1) ?_ ?_
      · rw [← h0]
        exact ⟨p0, e'.ex, e'.inj, e'.fr, e'.len, e'.val, e'.own, ⟨e'.pin, hq, ht⟩, fun x q => ⟨e.zm x q.1, sqL_ex x q.2.1, q.2.2.mono x⟩⟩
      · rintro i x σ' H' hx ⟨pi, p⟩
        obtain ⟨d, hd1, hd2⟩ := p.pin.2.2.get hx
        obtain ⟨r, hr, rfl⟩ := map_at hd1
        exact hs _ i r hr pi _ _ (p.setC hd2)
      · rintro σ' H' ⟨pi, p⟩
        rw [hl] at p pi
        exact hd pi _ _ (p.drop e.zm)
theorem sd_forRP {j : Nat} {n : Int} (Pi : Nat → Prop) (h : EA K B H0 Z ea E [.int n]) (hn : 0 ≤ n ∧ n ≤ 100000) (Ei : Nat → List Slot) (h0 : E = Ei 0) (p0 : Pi 0)
    (hs : ∀ (i : Nat), (i : Int) < n → Pi i → SD K B H0 Z tu (LP K B H0 Z De (Pi (i + 1)) (Ei (i + 1))) ((Ei i).set j (.val (.int i))))
    (hd : Pi n.toNat → SD K B H0 Z tNext De (Ei n.toNat)) : SD K B H0 Z (tFor (iRng1 ea) (gName j) tu) De E := fun σ H e =>
  h σ H e _ fun vs H1 e1 h1 => by
    have e' := e.ext e1
    have : vs = [.int n] := by
      cases h1 with
      | cons a t => cases a; cases t; rfl
    subst this
    refine ⟨n, rfl, by omega, by omega, for_range (lo := 0) (n := n.toNat) (fun i σ' H' => Pi i ∧ Env K B H0 Z (Ei i) σ' H') ⟨p0, h0 ▸ e'⟩ (fun i σ' H' hi p => ?_) (fun σ' H' p => hd p.1 _ _ p.2)⟩
    have e0 : (0 : Int) + (i : Int) = (i : Int) := Int.zero_add _
    show tu _ (σ'.set j (some (.int ((0 : Int) + (i : Int))))) H'
    rw [e0]
    exact hs i (by omega) p.1 _ _ (p.2.set (.int _) rfl)
/-! the same with a word about the slots -/
def LW (K : PySem.W.Frag) (B : List Addr) (H0 : Hp) (Z : Hp → Prop) (De : Ends) (W : List Slot → Prop) : Ends :=
  { nx := fun σ H => ∃ E, W E ∧ Env K B H0 Z E σ H, rt := De.rt, bk := De.nx, ct := fun σ H => ∃ E, W E ∧ Env K B H0 Z E σ H }
theorem sd_lw {W : List Slot → Prop} (hw : W E') (h : LeE E E') : SD K B H0 Z tNext (LW K B H0 Z De W) E := fun σ H e => ⟨E', hw, e.le h⟩
theorem sd_lwc {W : List Slot → Prop} (hw : W E') (h : LeE E E') : SD K B H0 Z tCont (LW K B H0 Z De W) E := fun σ H e => ⟨E', hw, e.le h⟩
theorem sd_forLW {α : Type} {j : Nat} (c : α → D) {ts : List α} (W : Nat → List Slot → Prop) (h : EC K B H0 Z te E (.lst (ts.map c))) (h0 : W 0 E)
    (hs : ∀ (Z' : Hp → Prop) i a E, ts[i]? = some a → W i E → SD K B H0 Z' tu (LW K B H0 Z' De (W (i + 1))) (E.set j (.val (c a))))
    (hd : ∀ E, W ts.length E → SD K B H0 Z tNext De E) : SD K B H0 Z (tFor (iList K te) (gName j) tu) De E := fun σ H e =>
  h σ H e _ fun v H1 e1 h1 => by
    have e' := e.ext e1
    cases h1 with
    | lst hq ht =>
      rename_i a xs
      refine ⟨a, rfl, ⟨xs, sqL_ex (hid_le _ _) hq⟩, ?_⟩
      have hl : xs.length = ts.length := by rw [ht.length, List.length_map]
      refine for_list (xs := xs) (fun i σ' H' => ∃ E, W i E ∧ Env K B H0 (fun H => Z H ∧ SqL K H a xs ∧ IsAll K H xs (ts.map c)) E σ' H') ?_ (fun i σ' H' _ ⟨_, _, p⟩ => sqL_ex (hid_le _ _) p.pin.2.1) ?_ ?_
      · exact ⟨E, h0, e'.ex, e'.inj, e'.fr, e'.len, e'.val, e'.own, ⟨e'.pin, hq, ht⟩, fun x q => ⟨e.zm x q.1, sqL_ex x q.2.1, q.2.2.mono x⟩⟩
      · rintro i x σ' H' hx ⟨E1, pi, p⟩
        obtain ⟨d, hd1, hd2⟩ := p.pin.2.2.get hx
        obtain ⟨r, hr, rfl⟩ := map_at hd1
        exact hs _ i r E1 hr pi _ _ (p.setC hd2)
      · rintro σ' H' ⟨E1, pi, p⟩
        rw [hl] at pi
        exact hd E1 pi _ _ (p.drop e.zm)
theorem sd_forTW {α : Type} {j : Nat} (c : α → D) {ts : List α} (W : Nat → List Slot → Prop) (h : EC K B H0 Z te E (.tup (ts.map c))) (h0 : W 0 E)
    (hs : ∀ (Z' : Hp → Prop) i a E, ts[i]? = some a → W i E → SD K B H0 Z' tu (LW K B H0 Z' De (W (i + 1))) (E.set j (.val (c a))))
    (hd : ∀ E, W ts.length E → SD K B H0 Z tNext De E) : SD K B H0 Z (tFor (iTup K te) (gName j) tu) De E := fun σ H e =>
  h σ H e _ fun v H1 e1 h1 => by
    have e' := e.ext e1
    cases h1 with
    | tup hq ht =>
      rename_i a xs
      refine ⟨a, rfl, ⟨xs, sqT_ex (hid_le _ _) hq⟩, ?_⟩
      have hl : xs.length = ts.length := by rw [ht.length, List.length_map]
      refine for_tup (xs := xs) (fun i σ' H' => ∃ E, W i E ∧ Env K B H0 (fun H => Z H ∧ SqT K H a xs ∧ IsAll K H xs (ts.map c)) E σ' H') ?_ (fun i σ' H' _ ⟨_, _, p⟩ => sqT_ex (hid_le _ _) p.pin.2.1) ?_ ?_
      · exact ⟨E, h0, e'.ex, e'.inj, e'.fr, e'.len, e'.val, e'.own, ⟨e'.pin, hq, ht⟩, fun x q => ⟨e.zm x q.1, sqT_ex x q.2.1, q.2.2.mono x⟩⟩
      · rintro i x σ' H' hx ⟨E1, pi, p⟩
        obtain ⟨d, hd1, hd2⟩ := p.pin.2.2.get hx
        obtain ⟨r, hr, rfl⟩ := map_at hd1
        exact hs _ i r E1 hr pi _ _ (p.setC hd2)
      · rintro σ' H' ⟨E1, pi, p⟩
        rw [hl] at pi
        exact hd E1 pi _ _ (p.drop e.zm)
theorem sd_forRW {j : Nat} {n : Int} (W : Nat → List Slot → Prop) (h : EA K B H0 Z ea E [.int n]) (hn : 0 ≤ n ∧ n ≤ 100000) (h0 : W 0 E)
    (hs : ∀ (i : Nat) E, (i : Int) < n → W i E → SD K B H0 Z tu (LW K B H0 Z De (W (i + 1))) (E.set j (.val (.int i))))
    (hd : ∀ E, W n.toNat E → SD K B H0 Z tNext De E) : SD K B H0 Z (tFor (iRng1 ea) (gName j) tu) De E := fun σ H e =>
  h σ H e _ fun vs H1 e1 h1 => by
    have e' := e.ext e1
    have : vs = [.int n] := by
      cases h1 with
      | cons a t => cases a; cases t; rfl
    subst this
    refine ⟨n, rfl, by omega, by omega, for_range (lo := 0) (n := n.toNat) (fun i σ' H' => ∃ E, W i E ∧ Env K B H0 Z E σ' H') ⟨E, h0, e'⟩ (fun i σ' H' hi ⟨E1, pi, p⟩ => ?_) (fun σ' H' ⟨E1, pi, p⟩ => hd E1 pi _ _ p)⟩
    have e0 : (0 : Int) + (i : Int) = (i : Int) := Int.zero_add _
    show tu _ (σ'.set j (some (.int ((0 : Int) + (i : Int))))) H'
    rw [e0]
    exact hs i E1 (by omega) pi _ _ (p.set (.int _) rfl)
/-! a range as a tuple, a list -/
theorem isAll_rg {H : Hp} (lo hi : Int) : IsAll K H (rgV lo hi) ((List.range (hi - lo).toNat).map fun (i : Nat) => D.int (lo + (i : Int))) := by
  unfold rgV
  induction List.range (hi - lo).toNat with
  | nil => exact .nil
  | cons a r ih => exact .cons (.int _) ih
theorem ep_tupRg2 {lo hi : Int} (ha : EP K B H0 Z ta E (.int lo)) (hb : EP K B H0 Z tb E (.int hi)) (hz : 0 ≤ lo ∧ lo ≤ 100000 ∧ 0 ≤ hi ∧ hi ≤ 100000) :
    EP K B H0 Z (tTupRg (tRg2 ta tb)) E (.tup ((List.range (hi - lo).toNat).map fun (i : Nat) => D.int (lo + (i : Int)))) := fun σ H e Q q =>
  ha σ H e _ fun v H1 e1 h1 => hb σ H1 (e.ext e1) _ fun u H2 e2 h2 => by
    cases h1; cases h2
    exact ⟨lo, hi, rfl, rfl, RgOk.of_le (by omega) (by omega) (by omega) (by omega), fun p np => q _ _ ((e1.trans e2).trans (Ex.new np)) (.tup (SqT.of upd_same) (isAll_rg lo hi))⟩
theorem ef_lstRg1 {hi : Int} (ha : EP K B H0 Z ta E (.int hi)) (hz : 0 ≤ hi ∧ hi ≤ 100000) :
    EF K B H0 Z (tLstRg (tRg1 ta)) E ((List.range hi.toNat).map fun (i : Nat) => D.int (i : Int)) := fun σ H e Q q =>
  ha σ H e _ fun v H1 e1 h1 => by
    cases h1
    have hr := isAll_rg (K := K) (H := H1) 0 hi
    have e0 : ((List.range (hi - 0).toNat).map fun (i : Nat) => D.int ((0 : Int) + (i : Int))) = ((List.range hi.toNat).map fun (i : Nat) => D.int (i : Int)) := by simp
    rw [e0] at hr
    exact ⟨hi, rfl, RgOk.of_le (by omega) (by omega) (by omega) (by omega), fun p np => q p _ _ (e1.back np) (e1.trans (Ex.new np)) upd_same (hr.mono (Ex.new np))⟩
end
end Y
namespace Y
open PySem L2
/-! readings by names, the written part told -/
def rLen (K : PySem.W.Frag) : List V → Hp → VK → Prop := fun xs H Q => ∃ p ys, xs = [.ref p] ∧ (SqL K H p ys ∨ SqT K H p ys) ∧ Q (.int ys.length) H
def rTupOf (K : PySem.W.Frag) : List V → Hp → VK → Prop := fun xs H Q => ∃ p ys, xs = [.ref p] ∧ ((SqL K H p ys ∧ ∀ l, H l = none → Q (.ref l) (upd H l (.tup ys))) ∨ (SqT K H p ys ∧ Q (.ref p) H))
def rLstOf (K : PySem.W.Frag) : List V → Hp → VK → Prop := fun xs H Q => ∃ p ys, xs = [.ref p] ∧ (SqL K H p ys ∨ SqT K H p ys) ∧ ∀ l, H l = none → Q (.ref l) (upd H l (.lst ys))
section
variable {X : Cx}
theorem call_lenY : CallR X (.builtin "len") (rLen X.K) := call_len_seq
theorem call_tupY : CallR X (.type "tuple") (rTupOf X.K) := call_tuple_of
theorem call_lstY : CallR X (.type "list") (rLstOf X.K) := call_list_of
end
end Y
set_option Elab.async false
set_option linter.all false
set_option autoImplicit false
set_option maxRecDepth 100000
set_option maxHeartbeats 2000000
/-! An own exception class over Exception whose __init__ calls super().__init__(f"..{place}") and keeps place: made. -/
namespace Y
open PySem PySem.W PySem.Calls PyProof.Rows Builtin.ObjectAttr
/-- Exception's mro -/
abbrev excB : List Value := [.type "Exception", .type "BaseException", .type "object"]
/-- the body of such an __init__ -/
def excBody (txt : Str) (j : Nat) (p0 p1 p2 p3 p4 p5 p6 p7 p8 p9 p10 p11 p12 : Pos) : List Stmt :=
  [.Expr (.Call (.Attribute (.Call (.Name "super" p0) [] [] p1) "__init__" p2) [.JoinedStr [.Constant (.str txt) j p3, .FormattedValue (.Name "place" p4) (-1) none p5] p6] [] p7) p8,
   .Assign [.Attribute (.Name "self" p9) "place" p10] (.Name "place" p11) p12]
def excScope : Scope := { kind := .function, names := [("self", .local), ("place", .local), ("__class__", .free), ("super", .globalImplicit)], isGenerator := false, isCoroutine := false, more := [] }
/-- the class at C, its __init__ at f -/
structure ExcK (K : Frag) (P : Program) (C f : Addr) (txt : Str) : Prop where
  ini : findIn K (.ref C) "__init__" = some (some (.ref f))
  own : excInitIn K C excB "Exception.__new__" = true
  ovr : excOver K C excB = true
  fn : isFn K (.ref f) = true
  def_ : ∃ (oc : Value) (od : Option Addr) (qual : Str) (par : Arguments) (dV kV doc pm ct : Value) (an : Option Addr) (cda cc : Addr) (osl : Array (Option Value)) (j : Nat) (p0 p1 p2 p3 p4 p5 p6 p7 p8 p9 p10 p11 p12 : Pos) (ar : Arg),
    K.lookup f = some ⟨oc, od, .func (ksFn "__init__" qual par (excBody txt j p0 p1 p2 p3 p4 p5 p6 p7 p8 p9 p10 p11 p12) excScope dV kV doc pm an (.ref cda) ct cc), osl⟩ ∧ codeIn K (.ref cda) qual = true ∧
      (∀ u v : Value, bindArgs (ksFn "__init__" qual par (excBody txt j p0 p1 p2 p3 p4 p5 p6 p7 p8 p9 p10 p11 p12) excScope dV kV doc pm an (.ref cda) ct cc) ⟨[u, v], []⟩ = (pure [(("self" : Str), u), (("place" : Str), v)] : Sem (List (Str × Value)))) ∧
      (par.posonlyargs ++ par.args).head? = some ar ∧ ar.arg = "self" ∧
      (∃ ccl cdd vs ccs file tf, K.lookup cda = some ⟨ccl, cdd, .fields vs, ccs⟩ ∧ vs[2]? = some (.str file tf) ∧ ((P.main.file : Str) == file) = true) ∧
      (∀ L : Addr, ∃ pl : Sem Bool, eval (.Call (.Attribute (.Call (.Name "super" p0) [] [] p1) "__init__" p2) [.JoinedStr [.Constant (.str txt) j p3, .FormattedValue (.Name "place" p4) (-1) none p5] p6] [] p7) (ksEnv qual excScope L f (.ref cda) cc) = (do
      let ov ← attributeBase (.Call (.Name "super" p0) [] [] p1) "__init__" (ksEnv qual excScope L f (.ref cda) cc) (eval (.Call (.Name "super" p0) [] [] p1) (ksEnv qual excScope L f (.ref cda) cc))
      standAt p2.atName
      let (fm, first) ← holding [ov] (getMethod ov "__init__" pl)
      callWith p7 fm first (backTo p7 (starEach [.JoinedStr [.Constant (.str txt) j p3, .FormattedValue (.Name "place" p4) (-1) none p5] p6] (ksEnv qual excScope L f (.ref cda) cc))) [])) ∧
      ∃ cl cld csl, K.lookup cc = some ⟨cl, cld, .cell (some (.ref C)), csl⟩
  sup : ks_superIn K C C "__init__" = some (some (.builtin "Exception.__init__"))
  opq : nsIn K cStatics "thirdparty.any" = some none
  sub : subIn K (.ref C) (.type "Exception") = some true
  slf : mroIn K C (.ref C) = some true
  sa : findIn K (.ref C) "__setattr__" = some (some (.builtin "object.__setattr__"))
  tk : takerIn K C "place" = some none
  hd : hasDictIn K C = true
  exC : subIn K (.ref C) (.type "BaseException") = some true
  tyC : typeIn K (.ref C) = some (.type "type")
  kC : keepIn K (.ref C) = true
  top : (P.main.scope.names.lookup ("super" : Str)).isSome = false
section
variable {P : Program} {w : World} {K : Frag} {C f : Addr} {txt : Str} {mg mb : Str → Option Value}
theorem exc_store {A : Around} {E : Value → Shared → Prop} {s : Shared} {x t : Addr} {v : Value} {Q : Unit → Shared → Prop} (c : ExcK K P C f txt) (X : K.In s.heap) (hx : s.heap.get? x = some (excObj C t none .none))
    (q : ∀ dx h' tk, (∀ b o, b ≠ x → s.heap.get? b = some o → h'.get? b = some o) → s.heap.objs.size ≤ dx → h'.get? x = some (excObj C t (some dx) .none) → h'.Ns1 dx (fun y => if y = "place" then some v else none) → Q () { s with heap := h', toks := tk }) :
    wpAny (model P w) A (setAttr (.ref x) "place" v) Q E s := by
  have I : InstAt s.heap x (excObj C t none .none) C none := ⟨hx, rfl, rfl, trivial⟩
  obtain ⟨cd, hcd, hdd⟩ := any_some c.hd
  have xs : x ≠ s.heap.objs.size := Nat.ne_of_lt (Heap.lt_size hx)
  obtain ⟨h, g, d, tk0, os⟩ := s
  refine set_plain X I c.sa (osa_openX (od := none) PySem.F.store_Exception X I c.ovr c.tk fun b => ?_)
  refine wpAny_bind (wpAny_pure (wpAny_bind (instanceDict_exc hx (looks_clsIn X hcd) hdd ?_)))
  show wpAny _ _ (storeInDict h.objs.size _ _ v) _ _ _
  have hx1 : (h.push (dictOf [] 0)).get? x = some (excObj C t none .none) := Heap.get?_push_of_some _ hx
  refine PySem.HandSPX.store_in_new ⟨_, #[], _, (Heap.get?_update_ne _ _ _ _ xs.symm).trans (Heap.get?_push_at rfl rfl), rfl, (fun e he => absurd he (by simp)), fun _ => rfl⟩ fun h' tk' hn hs => ?_
  refine q h.objs.size h' tk' (fun b o hb ho => ?_) (Nat.le_refl _) ?_ hn
  · exact (hs.2 b (Nat.ne_of_lt (Heap.lt_size ho))).trans ((Heap.get?_update_ne _ _ _ _ hb).trans (Heap.get?_push_of_some _ ho))
  · exact (hs.2 x xs).trans (Heap.get?_update_self _ hx1 rfl)
theorem exc_body {A : Around} {E : Value → Shared → Prop} {s : Shared} {R : Flow → Shared → Prop} {G : Heap} {m : Str → Option Value} {L x t : Addr} {n : Int} {tn : Tok} {rest : List Value} {oc cl ccl : Value} {od cld cdd : Option Addr} {qual file : Str} {par : Arguments} {dV kV doc pm ct : Value} {an : Option Addr}
    {cda cc : Addr} {osl csl ccs : Array (Option Value)} {vs : Array Value} {tf : Tok} {j : Nat} {p0 p1 p2 p3 p4 p5 p6 p7 p8 p9 p10 p11 p12 : Pos} {ar : Arg} (c : ExcK K P C f txt)
    (F : Fr G L s.heap m) (X : K.In G) (N : News G L s.heap [(x, excObj C t none .none), (t, excTup rest)]) (xt : x ≠ t) (gg : G.Ns mainGlobals mg) (gs : mg "super" = none) (gb : G.Ns builtinsNs mb) (bs : mb "super" = some (.type "super"))
    (hf : K.lookup f = some ⟨oc, od, .func (ksFn "__init__" qual par (excBody txt j p0 p1 p2 p3 p4 p5 p6 p7 p8 p9 p10 p11 p12) excScope dV kV doc pm an (.ref cda) ct cc), osl⟩)
    (hp : (par.posonlyargs ++ par.args).head? = some ar) (har : ar.arg = "self") (hcd : K.lookup cda = some ⟨ccl, cdd, .fields vs, ccs⟩) (hvs : vs[2]? = some (.str file tf)) (hfile : ((P.main.file : Str) == file) = true)
    (hcc : K.lookup cc = some ⟨cl, cld, .cell (some (.ref C)), csl⟩) {pl : Sem Bool} (hcall : eval (.Call (.Attribute (.Call (.Name "super" p0) [] [] p1) "__init__" p2) [.JoinedStr [.Constant (.str txt) j p3, .FormattedValue (.Name "place" p4) (-1) none p5] p6] [] p7) (ksEnv qual excScope L f (.ref cda) cc) = (do
      let ov ← attributeBase (.Call (.Name "super" p0) [] [] p1) "__init__" (ksEnv qual excScope L f (.ref cda) cc) (eval (.Call (.Name "super" p0) [] [] p1) (ksEnv qual excScope L f (.ref cda) cc))
      standAt p2.atName
      let (fm, first) ← holding [ov] (getMethod ov "__init__" pl)
      callWith p7 fm first (backTo p7 (starEach [.JoinedStr [.Constant (.str txt) j p3, .FormattedValue (.Name "place" p4) (-1) none p5] p6] (ksEnv qual excScope L f (.ref cda) cc))) [])) (hm1 : m "self" = some (.ref x)) (hm2 : m "place" = some (.int n tn)) (hn : n.natAbs.log2 < 1920) (ht : (Str.empty ++ txt ++ (toString n : Str)).length ≤ sizeLine) (ht1 : (Str.empty ++ txt).length ≤ sizeLine)
    (q : ∀ h' t' dx tk, (∀ b o, G.get? b = some o → h'.get? b = some o) → h'.get? x = some (excObj C t' (some dx) .none) → h'.Ns1 dx (fun y => if y = "place" then some (.int n tn) else none) → G.objs.size ≤ dx → dx ≠ x → R .next { s with heap := h', toks := tk }) :
    PySem.wpAt (model P w) A (.func (excBody txt j p0 p1 p2 p3 p4 p5 p6 p7 p8 p9 p10 p11 p12) (ksEnv qual excScope L f (.ref cda) cc)) (execs (excBody txt j p0 p1 p2 p3 p4 p5 p6 p7 p8 p9 p10 p11 p12) (ksEnv qual excScope L f (.ref cda) cc)) R E s := by
  have XS : K.In s.heap := X.keeps F.keep
  have I : InstAt s.heap x (excObj C t none .none) C none := ⟨(N (x, excObj C t none .none) (by simp)).1, rfl, rfl, trivial⟩
  obtain ⟨cd, hcdC, -⟩ := any_some c.hd
  refine ks_wpAt_execs_cons (ks_wpAt_Expr_any (ks_wpAt_MethodCall (pl := pl) ?_ hcall))
  obtain ⟨h, g, d, tk0, os⟩ := s
  obtain ⟨oD, hD1, hD2⟩ : ∃ oD, h.get? C = some oD ∧ oD.data = .cls cd := by
    unfold clsIn at hcdC
    split at hcdC
    · rename_i z1 z2 z3 z4 ho
      cases hcdC
      exact ⟨_, XS _ _ ho, rfl⟩
    · cases hcdC
  refine ks_wpAt_super_base (env := ksEnv qual excScope L f (.ref cda) cc) rfl rfl (by decide) rfl (XS _ _ hf) rfl hp rfl (XS _ _ hcd) rfl hvs hfile c.top ?_
  refine ks_loadName_global rfl rfl (loadGlobal_builtin (env := ksEnv qual excScope L f (.ref cda) cc) (gg.keeps F.keep) gs (gb.keeps F.keep) bs ⟨rfl, ?_⟩)
  refine wpAny_loadName_free rfl rfl rfl ⟨_, XS _ _ hcc, rfl⟩ ?_
  rw [har]
  refine wpAny_loadName_local rfl rfl F.ns hm1 ?_
  refine ks_wpAny_isType_cls hD1 hD2 ⟨rfl, ?_⟩
  refine ks_wpAny_call_super hD1 hD2 I.at_ I.cls (fun c' e => ?_) (looks_mroIn XS c.slf) (fun h1 e1 k1 => ?_)
  · cases e
  obtain ⟨F1, N1, l1⟩ := ks_newsPush (s := ⟨h, g, d, tk0, os⟩) F N rfl e1 k1
  have I1 : InstAt h1 x (excObj C t none .none) C none := ⟨(N1 (x, excObj C t none .none) (by simp)).1, rfl, rfl, trivial⟩
  refine kxs_method kxs_Exception (s := ⟨h1, g, d, tk0, os⟩) F1 X N1 (so := h.objs.size) (D := C) (by simp) I1 c.opq c.sup c.sub (by decide) fun q1 h2 F2 N2 l2 => ?_
  refine kxs_callWith1 (i := "Exception.__init__") (x := x) N2 (by simp) (spliced_more (env := ksEnv qual excScope L f (.ref cda) cc) ?_)
  refine wpAny_JoinedStr ?_
  show Joins _ _ _ [eval _ _, eval _ _] _ _ _
  refine Constant_str ⟨txt, _, rfl, ht1, ?_⟩
  refine wpAny_FormattedValue_plain (wpAny_Name (wpAny_loadName_local rfl rfl F2.ns hm2 (wpAny_formatField_int hn ⟨_, _, rfl, ht, ?_⟩)))
  refine ⟨ht, ?_⟩
  have xq : x < q1 := l2 (x, excObj C t none .none) (by simp)
  have xs : x < h.objs.size := l1 (x, excObj C t none .none) (by simp)
  refine spliced_none ⟨kxs_at N2 (by simp), ?_⟩
  refine kxs_call (x := x) F2 X N2 PySem.F.excBase_Exception c.own (by simp) (.tail (Nat.ne_of_gt xq) (.tail (Nat.ne_of_gt xs) (.head fun p hp => by
    have : p = (t, excTup rest) := by simpa using hp
    rw [this]
    exact fun z => xt z.symm))) (by simp [sizeLine_eq]) fun t3 h3 F3 N3 l3 => ?_
  have hx3 : h3.get? x = some (excObj C t3 none .none) := (N3 (x, excObj C t3 none .none) (by simp)).1
  refine ks_wpAt_execs_cons (ks_wpAt_Assign_Attr (wpAt_of_wpAny (wpAny_Name (wpAny_loadName_local rfl rfl F3.ns hm2 (wpAny_Name (wpAny_loadName_local rfl rfl F3.ns hm1 ?_))))))
  refine exc_store c (X.keeps F3.keep) hx3 fun dx h4 tk k4 hdx hx4 hn4 => ?_
  refine wpAt_of_wpAny (wpAny_execs_nil ?_)
  have gx : G.get? x = none := (N (x, excObj C t none .none) (by simp)).2.2
  have d3 : h3.get? dx = none := by
    cases z : h3.get? dx with
    | none => rfl
    | some o => exact absurd (Nat.lt_of_lt_of_le (Heap.lt_size z) hdx) (Nat.lt_irrefl _)
  refine q h4 t3 dx tk (fun b o e => k4 b o (fun z => by rw [z, gx] at e; cases e) (F3.keep b o e)) hx4 hn4 ?_ (fun z => by rw [z, hx3] at d3; cases d3)
  obtain ⟨oL, _, _, hoL, _⟩ := F3.ns
  exact Nat.le_trans F3.above (Nat.le_trans (Nat.le_of_lt (Heap.lt_size hoL)) hdx)
/-- C(n) -/
theorem exc_call {A : Around} {E : Value → Shared → Prop} {s : Shared} {n : Int} {tn : Tok} {Q : Value → Shared → Prop} (c : ExcK K P C f txt) (X : K.In s.heap) (lim : s.heap.NoLimit) (gg : s.heap.Ns mainGlobals mg) (gs : mg "super" = none) (gb : s.heap.Ns builtinsNs mb)
    (bs : mb "super" = some (.type "super")) (hr : (A.under (.builtin "type.__call__" ⟨[.ref C, .int n tn], []⟩)).depth < recursionLimit) (hn : n.natAbs.log2 < 1920) (ht : (Str.empty ++ txt ++ (toString n : Str)).length ≤ sizeLine) (ht1 : (Str.empty ++ txt).length ≤ sizeLine)
    (q : ∀ h' e t' dx tk, (∀ b o, s.heap.get? b = some o → h'.get? b = some o) → s.heap.objs.size ≤ e → h'.get? e = some (excObj C t' (some dx) .none) → h'.Ns1 dx (fun y => if y = "place" then some (.int n tn) else none) → s.heap.objs.size ≤ dx → dx ≠ e →
      Q (.ref e) { s with heap := h', toks := tk }) : wpAny (model P w) A (call (.ref C) [.int n tn]) Q E s := by
  obtain ⟨nm, N', qn, bs', bm, hdct, sn, sub, ab, col, dd, k0, k1, k2, k3, k5, hC, hT⟩ := excInit_of X c.own
  obtain ⟨oc, od, qual, par, dV, kV, doc, pm, ct, an, cda, cc, osl, j, p0, p1, p2, p3, p4, p5, p6, p7, p8, p9, p10, p11, p12, ar, hf, hcode, hbind, hp, har, ⟨ccl, cdd, vs, ccs, file, tf, hcd, hvs, hfile⟩, hcall, cl, cld, csl, hcc⟩ := c.def_
  have hi' : Looks (model P w) s.heap (typeLookup (.ref C) "__init__") (some (.ref f)) := looks_findIn X c.ini
  have hof := X _ _ hf
  have hcf : oc = .type "function" := by
    have := c.fn
    unfold isFn typeIn at this
    simp only [hf] at this
    simpa using this
  obtain ⟨h, g, d, tk0, os⟩ := s
  refine wpAny_call (PX.call_own PySem.F.excBase_Exception hT hC hi' (fun self => exc_bind hof hcf self) (by simp [sizeLine_eq]) ?_)
  have kk : ∀ b o, h.get? b = some o → ((h.push (excTup [.int n tn])).push (excObj C h.objs.size none .none)).get? b = some o := fun b o e => Heap.get?_push_of_some _ (Heap.get?_push_of_some _ e)
  refine ks_codeAny_call_defAt hr (kk _ _ hof) rfl (lim.keeps kk) (codeRec_of (X.keeps kk) hcode) rfl (.of_eq (hbind _ _)) (show ∀ y ∈ excScope.names, y.2 ≠ .cell by decide) (fun y hy => by
    simp only [List.mem_cons, List.not_mem_nil, or_false] at hy
    rcases hy with rfl | rfl <;> rfl) fun h1 hns hk1 => ?_
  have sz : ((h.push (excTup [.int n tn])).push (excObj C h.objs.size none .none)).objs.size = h.objs.size + 2 := by rw [Heap.size_push, Heap.size_push]
  have none_of : ∀ {a : Addr}, h.objs.size ≤ a → h.get? a = none := fun {a} ha => by
    cases z : h.get? a with
    | none => rfl
    | some o => exact absurd (Nat.lt_of_lt_of_le (Heap.lt_size z) ha) (Nat.lt_irrefl _)
  have e1 : ((h.push (excTup [.int n tn])).push (excObj C h.objs.size none .none)).get? h.objs.size = some (excTup [.int n tn]) := by heap_get
  have e2 : ((h.push (excTup [.int n tn])).push (excObj C h.objs.size none .none)).get? (h.objs.size + 1) = some (excObj C h.objs.size none .none) := by heap_get
  refine exc_body (G := h) (x := h.objs.size + 1) (t := h.objs.size) (rest := [.int n tn]) c ⟨hns, fun b o e => hk1 b o (kk b o e), by rw [sz]; omega⟩ X (fun p hp => ?_) (Nat.succ_ne_self _) gg gs gb bs hf hp har hcd hvs hfile hcc (hcall _).choose_spec rfl rfl hn ht ht1 fun h' t' dx tk k he hd hdx hde => ?_
  · simp only [List.mem_cons, List.not_mem_nil, or_false] at hp
    rcases hp with rfl | rfl
    · exact ⟨hk1 _ _ e2, by rw [sz]; exact Nat.ne_of_lt (Nat.lt_succ_self _), none_of (Nat.le_succ _)⟩
    · exact ⟨hk1 _ _ e1, by rw [sz]; exact Nat.ne_of_lt (Nat.lt_of_lt_of_le (Nat.lt_succ_self _) (Nat.le_succ _)), none_of (Nat.le_refl _)⟩
  · exact ⟨rfl, q h' _ t' dx tk k (Nat.le_succ _) he hd hdx hde⟩
end
end Y
namespace Y
open PySem L2
section
variable {X : Cx} {C f : Addr} {txt : Str} {es : List Expr} {ta : TA} {e : Expr} {p pos : Pos} {k : Nat}
/-- C(e): an exception whose dict says place -/
def tExc (C : Addr) (ta : TA) : St → Hp → XK → Prop := fun σ H Q => ta σ H fun vs H1 => ∃ n : Int, vs = [.int n] ∧ n.natAbs < 1000000 ∧ ∀ d, H1 d = none → Q (.ref C) (some d) (upd H1 d (.xd [("place", .int n)]))
theorem text_fits {n : Int} {txt : Str} (hn : n.natAbs < 1000000) (ht : txt.length ≤ 100) : n.natAbs.log2 < 1920 ∧ (Str.empty ++ txt ++ (toString n : Str)).length ≤ sizeLine ∧ (Str.empty ++ txt).length ≤ sizeLine := by
  have e := int_text_length_le10 (k := 6) (a := n) (by decide) hn
  have e0 : Str.empty.length = 0 := rfl
  refine ⟨?_, ?_, ?_⟩
  · by_cases z : n.natAbs = 0
    · rw [z]; decide
    · exact (Nat.log2_lt z).mpr (Nat.lt_of_lt_of_le hn (by decide +kernel))
  · rw [PySem.Str.length_append, PySem.Str.length_append, ofString_length, sizeLine_eq]; omega
  · rw [PySem.Str.length_append, sizeLine_eq]; omega
theorem pmk_exc {x : Str} (c : ExcK X.K X.prog C f txt) (ht : txt.length ≤ 100) (hr : Room (k + 1) X.A) (hg : Gl X x) (hm : X.mg x = some (.ref C)) (gs : X.mg "super" = none) (ha : PA X (e :: es) ta)
    (hdb : (x == ("__debug__" : Str)) = false := by decide) (he : starEach (e :: es) X.env = (false, eval e X.env) :: starEach es X.env := by rfl) (hpl : (backTo pos (starEach es X.env)).any (·.1) = false := by rfl) :
    PMk X (.Call (.Name x p) (e :: es) [] pos) (tExc C ta) := by
  intro pins s σ H Q I h
  refine wpAny_Call_Name_kw (ld_glob I hg hm ?_ hdb)
  refine PySem.W.callWith_K (h₀ := X.base) I.ok.mod.kin c.kC (thn (ha.run pos pins s σ H _ I h) fun us s1 hh => ?_) he hpl
  obtain ⟨vs, H1, I1, r, n, rfl, hn, q⟩ := hh
  refine ⟨I1.kIn, ?_⟩
  obtain ⟨u, rfl, ru⟩ := r.one
  obtain ⟨tn, rfl⟩ := (show ∃ t, u = Value.int n t from ru)
  obtain ⟨t1, t2, t3⟩ := text_fits hn ht
  have kb : ∀ b o, X.base.get? b = some o → s1.heap.get? b = some o := fun b o z => (I1.env0.bs b o z).1
  obtain ⟨mb, hb1, hb2⟩ := I1.ok.mod.blt
  refine exc_call c I1.kIn (I1.ok.mod.nolimit.keeps kb) (I1.ok.mod.glob.keeps kb) gs (hb1.keeps kb) ((hb2 _ (by decide +kernel)).trans (by first | boot_by_name | rfl | kernel_rfl)) (hr.make C _ []).depth t1 t2 t3 fun h' a t' dx tk kp ha' he' hd' hdx hda => ?_
  obtain ⟨G, g1, g2⟩ := restrict h' fun b => decide (b ≠ a)
  have gk : ∀ b, b ≠ a → G.get? b = h'.get? b := fun b hb => g1 b (decide_eq_true hb)
  have ge : G.get? a = none := g2 a (by simp)
  have kG : ∀ b o, s1.heap.get? b = some o → G.get? b = some o := fun b o z => by
    rw [gk b (Nat.ne_of_lt (Nat.lt_of_lt_of_le (Heap.lt_size z) ha'))]
    exact kp b o z
  have nd : H1 dx = none := I1.hok.fresh hdx
  have na : H1 a = none := I1.hok.fresh ha'
  have J : Inv X pins σ (upd H1 dx (.xd [("place", .int n)])) { s1 with heap := G, toks := tk } := by
    refine I1.laid kG hdx ⟨_, hd'.at fun o z => (gk dx hda).trans z, fun y => ?_⟩
    by_cases hy : y = "place"
    · subst hy
      simp only [if_pos rfl]
      rw [lookup_put, if_pos rfl]
      exact ⟨_, rfl⟩
    · rw [lookup_put, if_neg hy, if_neg hy]
      exact True.intro
  refine ⟨a, _, _, { s1 with heap := G, toks := tk }, _, .ref C, some dx, rfl, J, fun b o z => ?_, ge, he', ⟨rfl, rfl⟩, rfl, rfl, by rw [upd_ne hda.symm]; exact na, rfl, I1.bare, raises_own c.exC c.tyC, q dx nd⟩
  by_cases hb : b = a
  · subst hb
    have z' : G.get? b = some o := z
    rw [ge] at z'
    cases z'
  · exact (gk b hb).symm.trans z
end
end Y
set_option Elab.async false
set_option linter.all false
set_option autoImplicit false
set_option maxRecDepth 100000
set_option maxHeartbeats 1000000
/-! Objects, their methods and operators; defs that may raise. -/
namespace Y
open PySem L2
/-! ### isinstance -/
def D.tyN : D → Option String
  | .non => some "NoneType"
  | .bl _ => some "bool"
  | .int _ => some "int"
  | .str _ => some "str"
  | .tup _ => some "tuple"
  | .lst _ => some "list"
  | _ => none
section
variable {K : PySem.W.Frag} {H : Hp}
theorem tyx_l {a : Addr} {xs : List V} (h : SqL K H a xs) : TyX K H (.ref a) (.type "list") := by
  rcases h with (h | ⟨o, h⟩) | h
  · exact .base (.lst h)
  · exact .base (.frz h)
  · obtain ⟨o, _, _, h1, h2, _⟩ := h
    exact .kList h1 h2
theorem tyx_t {a : Addr} {xs : List V} (h : SqT K H a xs) : TyX K H (.ref a) (.type "tuple") := by
  rcases h with (h | ⟨o, h⟩) | h
  · exact .base (.tup h)
  · exact .fTuple h
  · obtain ⟨o, _, _, h1, h2, _⟩ := h
    exact .kTuple h1 h2
theorem Is.tyx {v : V} {d : D} {t : String} (h : Is K H v d) (e : d.tyN = some t) : TyX K H v (.type t) := by
  cases h with
  | non => cases e; exact .base .non
  | bl b => cases e; exact .base (.bl b)
  | int i => cases e; exact .base (.int i)
  | str x => cases e; exact .base (.str x)
  | ty n => cases e
  | adr n => cases e
  | tup h _ => cases e; exact tyx_t h
  | lst h _ => cases e; exact tyx_l h
  | ins _ _ _ => cases e
end
/-- what the written part says of a class of things -/
structure ObjC (K : PySem.W.Frag) (C : Addr) : Prop where
  cl : Cls K C
  ca : PySem.W.findIn K (.ref C) "__class__" = some (some (.builtin "object.__class__"))
  cn : PySem.W.specialIn K (.builtin "object.__class__") "__get__" = some (some (.builtin "getset_descriptor.__get__"))
  ct : PySem.W.takesIn K (.builtin "object.__class__") = some true
  cm : PySem.W.mroIn K C (.type "object") = some true
def lookD : List Str → List D → Str → Option D
  | n :: ns, d :: l, f => if f = n then some d else lookD ns l f
  | _, _, _ => none
section
variable {K : PySem.W.Frag} {B : List Addr} {H0 : Hp} {Z : Hp → Prop} {E : List Slot} {ta tb tc te : TE} {t : TT} {ea : TA} {x y z d : D} {l m : List D} {b c : Bool} {De : Ends} {tx : TS}
theorem ep_isi {ty t2 : String} {r : Bool} (h : EP K B H0 Z te E d) (e : d.tyN = some ty) (k : kitB ty t2 = some r) : EP K B H0 Z (tCB (rIsi K) (tCons te (tCons (tC (.ty t2)) tNil))) E (.bl r) := fun σ H en Q q =>
  h σ H en _ fun v H1 e1 h1 => ⟨v, .ty t2, .type ty, .type t2, r, rfl, .ty t2, h1.tyx e, kit_ty k, q _ H1 e1 (.bl r)⟩
theorem ep_isiO {C : Addr} {ns : List Str} (h : EP K B H0 Z te E (.ins C ns l)) (c : ObjC K C) : EP K B H0 Z (tCB (rIsi K) (tCons te (tCons (tC (.ref C)) tNil))) E (.bl true) := fun σ H en Q q =>
  h σ H en _ fun v H1 e1 h1 => by
    obtain ⟨a, dx, fs, rfl, ha, _, _⟩ := h1.ins_inv
    refine ⟨.ref a, .ref C, .ref C, .ref C, true, rfl, .own C, .base (.ins ha c.cl c.ca c.cn c.ct c.cm), ?_, q _ H1 e1 (.bl true)⟩
    unfold PySem.W.kitOne
    rw [if_pos (beq_self_eq_true _)]
theorem ep_isiT {ty t2 t3 : String} {r2 r3 : Bool} (h : EP K B H0 Z te E d) (e : d.tyN = some ty) (k : kitB ty t2 = some r2) (k3 : kitB ty t3 = some r3) :
    EP K B H0 Z (tCB (rIsiT K) (tCons te (tCons (tTup (tCons (tC (.ty t2)) (tCons (tC (.ty t3)) tNil))) tNil))) E (.bl (r2 || r3)) := fun σ H en Q q =>
  h σ H en _ fun v H1 e1 h1 => ⟨by simp [sizeLine_eq], fun p np => ⟨v, p, [.ty t2, .ty t3], .type ty, [.type t2, .type t3], r2 || r3, rfl, upd_same, .cons (.ty _) (.cons (.ty _) .nil), (h1.mono (Ex.new np)).tyx e,
    kitAny_cons (kit_ty k) (fun hb => by
      subst hb
      exact kitAny_cons (kit_ty k3) (fun hb => by subst hb; rfl) (fun hb => by subst hb; rfl)) (fun hb => by subst hb; rfl), q _ _ (e1.trans (Ex.new np)) (.bl _)⟩⟩
/-! ### attributes -/
theorem look_fs {H : Hp} {f : Str} : ∀ {fs : List (Str × V)} {ns : List Str} {l : List D}, fs.map (·.1) = ns → IsAll K H (fs.map (·.2)) l → lookD ns l f = some d → ∃ v, fs.lookup f = some v ∧ Is K H v d
  | [], ns, l, e, h, k => by
    subst e
    simp [lookD] at k
  | (n, v) :: fs, ns, l, e, h, k => by
    subst e
    cases h with
    | cons h t =>
      rw [L2.lookup_put]
      simp only [List.map_cons, lookD] at k
      by_cases hf : f = n
      · rw [if_pos hf] at k ⊢
        cases k
        exact ⟨v, rfl, h⟩
      · rw [if_neg hf] at k ⊢
        exact look_fs rfl t k
theorem ep_fld {C : Addr} {ns : List Str} {f : Str} (h : EP K B H0 Z te E (.ins C ns l)) (c : Cls K C) (n : NoAttr K C f) (k : lookD ns l f = some d) : EP K B H0 Z (tFld K te f) E d := fun σ H en Q q =>
  h σ H en _ fun v H1 e1 h1 => by
    obtain ⟨a, dx, fs, rfl, ha, hn, hl⟩ := h1.ins_inv
    obtain ⟨v, h2, h3⟩ := look_fs hn hl k
    exact ⟨a, C, dx, fs, v, rfl, ha, c, n, h2, q v H1 e1 h3⟩
/-! ### defs that may raise -/
/-- the promise: from ds the datum d, or C(place) is raised -/
def PureX (K : PySem.W.Frag) (pre : List D → D → Prop) (preX : List D → Addr → Int → Prop) : Sp := fun vs H Q E => ∃ ds, IsAll K H vs ds ∧ ((∃ d, pre ds d ∧ ∀ v H', Ex H H' → Is K H' v d → Q v H') ∨
  ∃ C n, preX ds C n ∧ ∀ d H', Ex H H' → H' d = some (.xd [("place", .int n)]) → E (.ref C) (some d) H')
/-- an expression that raises as wanted -/
def ER (K : PySem.W.Frag) (B : List Addr) (H0 : Hp) (Z : Hp → Prop) (te : TE) (E : List Slot) : Prop := ∀ σ H, Env K B H0 Z E σ H → ∀ Q : VK, te σ H Q
def ERA (K : PySem.W.Frag) (B : List Addr) (H0 : Hp) (Z : Hp → Prop) (ta : TA) (E : List Slot) : Prop := ∀ σ H, Env K B H0 Z E σ H → ∀ Q : List V → Hp → Prop, ta σ H Q
def ERT (K : PySem.W.Frag) (B : List Addr) (H0 : Hp) (Z : Hp → Prop) (t : TT) (E : List Slot) : Prop := ∀ σ H, Env K B H0 Z E σ H → ∀ Q : Bool → Hp → Prop, t σ H Q
theorem ep_callX {pre : List D → D → Prop} {preX : List D → Addr → Int → Prop} {ex : XK} (h : EA K B H0 Z ea E l) (hp : pre l d) : EP K B H0 Z (tCall (PureX K pre preX) [] ex ea) E d := fun σ H e Q q =>
  h σ H e _ fun vs H1 e1 h1 => ⟨l, by rw [List.append_nil]; exact h1, .inl ⟨d, hp, fun v H2 e2 h2 => q v H2 (e1.trans e2) h2⟩⟩
theorem ep_callS {pre : List D → D → Prop} {preX : List D → Addr → Int → Prop} {ex : L2.St → XK} (h : EA K B H0 Z ea E l) (hp : pre l d) : EP K B H0 Z (tCallS (PureX K pre preX) ex ea) E d := fun σ H e Q q =>
  h σ H e _ fun vs H1 e1 h1 => ⟨l, h1, .inl ⟨d, hp, fun v H2 e2 h2 => q v H2 (e1.trans e2) h2⟩⟩
/-- what is wanted of C(n) here -/
def WX_ (K : PySem.W.Frag) (B : List Addr) (H0 : Hp) (Z : Hp → Prop) (E : List Slot) (W : L2.WX) (C : Addr) (n : Int) : Prop := ∀ σ H, Env K B H0 Z E σ H → ∀ d, H d = some (.xd [("place", .int n)]) → W (.ref C) (some d) σ H
theorem er_callS {pre : List D → D → Prop} {preX : List D → Addr → Int → Prop} {W : L2.WX} {C : Addr} {n : Int} (h : EA K B H0 Z ea E l) (hp : preX l C n) (hw : WX_ K B H0 Z E W C n) : ER K B H0 Z (tCallS (PureX K pre preX) (WE W) ea) E := fun σ H e Q =>
  h σ H e _ fun vs H1 e1 h1 => ⟨l, h1, .inr ⟨C, n, hp, fun dd H2 e2 h2 => hw σ H2 (e.ext (e1.trans e2)) dd h2⟩⟩
theorem era_cons {ta : TE} {tr : TA} (h : ER K B H0 Z ta E) : ERA K B H0 Z (tCons ta tr) E := fun σ H e Q => h σ H e _
theorem er_call {sp : Sp} {ex : XK} (h : ERA K B H0 Z ea E) : ER K B H0 Z (tCall sp [] ex ea) E := fun σ H e Q => h σ H e _
theorem er_callSa {sp : Sp} {ex : L2.St → XK} (h : ERA K B H0 Z ea E) : ER K B H0 Z (tCallS sp ex ea) E := fun σ H e Q => h σ H e _
theorem er_if (h : ERT K B H0 Z t E) : ER K B H0 Z (tIf t ta tb) E := fun σ H e Q => h σ H e _
theorem ert_test (h : ER K B H0 Z te E) : ERT K B H0 Z (tTest te) E := fun σ H e Q => h σ H e _
theorem sd_asgR {g : TG} (h : ER K B H0 Z te E) : SD K B H0 Z (tAsg te g) De E := fun σ H e => h σ H e _
theorem sd_retR (h : ER K B H0 Z te E) : SD K B H0 Z (tRet te) De E := fun σ H e => h σ H e _
theorem sd_dropR (h : ER K B H0 Z te E) : SD K B H0 Z (tDrop te) De E := fun σ H e => h σ H e _
theorem sd_raise {W : L2.WX} {C : Addr} {n : Int} (h : EA K B H0 Z ea E [.int n]) (hn : n.natAbs < 1000000) (hw : WX_ K B H0 Z E W C n) : SD K B H0 Z (fun _ σ H => tExc C ea σ H fun cls d H' => W cls d σ H') De E := fun σ H e =>
  h σ H e _ fun vs H1 e1 h1 => by
    cases h1 with
    | cons a t =>
      cases a; cases t
      exact ⟨n, rfl, hn, fun d nd => hw σ _ (e.ext (e1.trans (Ex.new nd))) d upd_same⟩
end
/-! ### a def that may raise -/
structure OkX (K : PySem.W.Frag) (H : Hp) (Q : VK) (D : Ends) (d : Y.D) : Prop where
  rt : RT K [] H D d
  nx : d = .non → ∀ σ H', Ex H H' → D.nx σ H'
section
variable {P : Program} {w : World} {K : PySem.W.Frag} {mg : Str → Option Value} {base : Heap}
/-- as pure_ok; the exceptions that leave: what E wants of C(n) -/
theorem purex_ok {x qual : Str} {st : Stmt} {f : Addr} {fd : FuncData} {N ps : List Str} {k : Nat} {pre : List D → D → Prop} {preX : List D → Addr → Int → Prop} (F : Fun K x qual st f fd) (S : FnScope N ps (defScope st)) (len : ∀ ds, ((∃ d, pre ds d) ∨ ∃ C n, preX ds C n) → ds.length = ps.length) (hN : ps.length ≤ N.length)
    (hb : ∀ (cdv : Value) (A : Around) (outer : List PySem.Env) (s : Shared) (H : Hp) (E : XK), Room k (A.deeper (PyProof.Rows.envOfC qual (defScope st) s.heap.objs.size f cdv)) →
      ∃ t, PSs (cxOf (L2.CX P w) P w K mg base N qual (defScope st) f cdv A outer s H E) (defBody st) t ∧ (∀ ds d, pre ds d → ∀ D : Ends, Ok K H D d → SD K [] H (fun _ => True) t D (entry N ds)) ∧
        ∀ ds C n, preX ds C n → ∀ D : Ends, (∀ d H', Ex H H' → H' d = some (.xd [("place", .int n)]) → E (.ref C) (some d) H') → SD K [] H (fun _ => True) t D (entry N ds)) :
    FnOk P w K mg base (L2.CX P w) (k + 1) f fd ps (PureX K pre preX) := by
  refine F.okX S (fun vs H Q E h => ?_) (fun cdv A outer s H vs Q E hr h => ?_)
  · obtain ⟨ds, h1, h2⟩ := h
    rw [h1.length]
    rcases h2 with ⟨d, h2, _⟩ | ⟨C, n, h2, _⟩
    · exact len ds (.inl ⟨d, h2⟩)
    · exact len ds (.inr ⟨C, n, h2⟩)
  · obtain ⟨t, ht, hs, hx⟩ := hb cdv A outer s H E hr
    refine ⟨t, ht, ?_⟩
    obtain ⟨ds, h1, h2⟩ := h
    rcases h2 with ⟨d, h2, h3⟩ | ⟨C, n, h2, h3⟩
    · refine hs ds d h2 _ ⟨fun v H' e i => h3 v H' (fun a o q => e a o (by simp) q) i, fun hd σ H' e => h3 .non H' e (hd ▸ .non)⟩ _ _ (env_entry h1 ?_)
      have := len ds (.inl ⟨d, h2⟩)
      omega
    · refine hx ds C n h2 _ (fun d H' e q => h3 d H' e q) _ _ (env_entry h1 ?_)
      have := len ds (.inr ⟨C, n, h2⟩)
      omega
theorem wx_of {K : PySem.W.Frag} {H : Hp} {Z : Hp → Prop} {E : List Slot} {W : XK} {C : Addr} {n : Int} (h : ∀ d H', Ex H H' → H' d = some (.xd [("place", .int n)]) → W (.ref C) (some d) H') : WX_ K [] H Z E (fun cls d _ H' => W cls d H') C n := fun σ H' e d q =>
  h d H' (fun a o z => e.ex a o (by simp) z) q
end
end Y
set_option Elab.async false
set_option linter.all false
set_option autoImplicit false
set_option maxRecDepth 100000
set_option maxHeartbeats 1000000
/-! Methods, own operators, a class called, fields stored. -/
namespace Y
open PySem L2 PySem.Spec
/-- o.m(..) of an instance of the class at C; what leaves it by the slots -/
def tMeS (C : Addr) (m : Str) (sp : Sp) (E : L2.St → XK) (ta : TE) (t : TA) : TE := fun σ H Q => ta σ H fun x H1 => ∃ a dx fs, x = .ref a ∧ H1 a = some (.ins C dx fs) ∧ fs.lookup m = none ∧ t σ H1 fun vs H2 => sp (x :: vs) H2 Q (E σ)
section
variable {X : Cx} {CX : CXT} {k : Nat} {f C g : Addr} {fd : FuncData} {ps : List Str} {sp : Sp} {E : L2.St → XK} {x m : Str} {p pos apos : Pos} {e o : Expr} {es : List Expr} {ta : TE} {t : TA}
theorem pe_meS {pl : Sem Bool} (he : PE X o ta) (c : Cls X.K C) (hm : Meth X.K C m f) (F : FnOk X.prog X.w X.K X.mg X.base CX k f fd ps sp) (hr : Room k X.A) (hb : Binds X.K fd ps []) (hx : ∀ σ, PassesAt CX X σ (E σ)) (ha : PA X (e :: es) t)
    (hst : starEach (e :: es) X.env = (false, eval e X.env) :: starEach es X.env := by rfl) (hpl : (backTo pos (starEach es X.env)).any (·.1) = false := by rfl)
    (ht : eval (.Call (.Attribute o m apos) (e :: es) [] pos) X.env = (do
      let ov ← eval o X.env
      standAt apos.atName
      let (fm, first) ← holding [ov] (getMethod ov m pl)
      callWith pos fm first (backTo pos (starEach (e :: es) X.env)) (backToKw pos (keywordEach [] X.env))) := by rfl) :
    PE X (.Call (.Attribute o m apos) (e :: es) [] pos) (tMeS C m sp E ta t) := by
  refine ⟨fun pins s σ H Q I h => ?_⟩
  refine PySem.W.methodCall_KW (pl := pl) (thn (he.run pins s σ H _ I h) fun u s1 hh => ?_) ht
  obtain ⟨y, H1, I1, ry, a, dx, fs, rfl, ea, l, q⟩ := hh
  obtain rfl : u = Value.ref a := ry
  refine getmeth_ok I1 ea c hm l ?_
  refine PySem.W.callWith_K (first := [.ref a]) (h₀ := X.base) I.ok.mod.kin hm.kp (thn (ha.run pos pins s1 σ H1 _ I1 q) fun us s2 hh => ?_) hst hpl
  obtain ⟨vs, H2, I2, r, q2⟩ := hh
  exact ⟨I2.kIn, run_fnS (us := .ref a :: us) (vs := .ref a :: vs) F hr hb (hx σ) I2 (.cons rfl r) q2⟩
/-! ### own ~ -/
def rInv (C : Addr) (sp : Sp) : V → Hp → VK → Prop := fun x H Q => ∃ a dx fs, x = .ref a ∧ H a = some (.ins C dx fs) ∧ sp [x] H Q E0
theorem un_invO (hs : PySem.W.findIn X.K (.ref C) "__invert__" = some (some (.ref g))) (hf : PySem.W.isFn X.K (.ref g) = true) (F : FnOk X.prog X.w X.K X.mg X.base CX0 k g fd ps sp) (hr : Room k X.A) (hb : Binds X.K fd ps []) : UnR X (unaryOp .Invert) (rInv C sp) := by
  intro pins s σ H y v Q I ry h
  obtain ⟨a, dx, fs, rfl, ha, q⟩ := h
  obtain rfl : v = Value.ref a := ry
  obtain ⟨mA, O, _⟩ := ins_get I.hok ha
  obtain ⟨od, J, _⟩ := O.look
  obtain ⟨m, hF⟩ := I.fr
  exact PySem.W.ksp_inv hF I.ok.mod.kin J hs hf (run_fn (us := [.ref a]) (vs := [.ref a]) F hr hb .nil pass0 I (.cons rfl .nil) q)
/-! ### own == -/
def rEqO (K : PySem.W.Frag) (C : Addr) (sp : Sp) : R2 := fun x y H Q => ∃ a dx fs b dy gs, x = .ref a ∧ y = .ref b ∧ H a = some (.ins C dx fs) ∧ H b = some (.ins C dy gs) ∧ sp [x, y] H Q E0
theorem op_eqO (hn : PySem.W.notFirst X.K C (.ref C) = true) (hs : PySem.W.findIn X.K (.ref C) "__eq__" = some (some (.ref g))) (hf : PySem.W.isFn X.K (.ref g) = true) (F : FnOk X.prog X.w X.K X.mg X.base CX0 k g fd ps sp) (hr : Room k X.A) (hb : Binds X.K fd ps []) :
    OpR X (compareOp .Eq) (rEqO X.K C sp) := by
  intro pins s σ H x y v u Q I rx ry h
  obtain ⟨a, dx, fs, b, dy, gs, rfl, rfl, ha, hb', q⟩ := h
  obtain rfl : v = Value.ref a := rx
  obtain rfl : u = Value.ref b := ry
  obtain ⟨mA, O, _⟩ := ins_get I.hok ha
  obtain ⟨od, J, _⟩ := O.look
  obtain ⟨mB, O', _⟩ := ins_get I.hok hb'
  obtain ⟨od', J', _⟩ := O'.look
  obtain ⟨m, hF⟩ := I.fr
  show wpAny _ _ (richCompare .Eq _ _) _ _ _
  refine PySem.W.cmp_K (op := .Eq) (tb := .ref C) hr.units0 hF I.ok.mod.kin J J'.type hn hs hf ?_
  refine wpAny_mono (run_fn (us := [.ref a, .ref b]) (vs := [.ref a, .ref b]) F hr hb .nil pass0 I (.cons rfl (.cons rfl .nil)) q) (fun w s' z => ?_) fun _ _ z => z
  obtain ⟨z', H', I', rz, qz⟩ := z
  exact SlX.cmpback rz ⟨z', H', I', rz, qz⟩
end
/-! ### an __init__ that stores -/
def InitP (K : PySem.W.Frag) (C : Addr) (pre : List D → List Str → List D → Prop) : Sp := fun vs H Q _ => ∃ x dx us ds ns l, vs = .ref x :: us ∧ H x = some (.ins C dx []) ∧ IsAll K H us ds ∧ pre ds ns l ∧
  ∀ H' fs, (∀ a o, a ≠ x → H a = some o → H' a = some o) → H' x = some (.ins C dx fs) → fs.map (·.1) = ns → IsAll K H' (fs.map (·.2)) l → Q .non H'
mutual
def D.nob : D → Bool
  | .ins _ _ _ => false
  | .tup l => nobAll l
  | .lst l => nobAll l
  | _ => true
def nobAll : List D → Bool
  | [] => true
  | d :: l => d.nob && nobAll l
end
section
variable {K : PySem.W.Frag} {B : List Addr} {H0 H : Hp} {Z : Hp → Prop} {E : List Slot} {ta tb tc te : TE} {t : TT} {ea : TA} {x y z d : D} {l m : List D} {b c : Bool} {De : Ends} {tx : TS} {C : Addr} {ns : List Str} {k : Nat}
theorem nobAll_iff : ∀ {l : List D}, nobAll l = true ↔ ∀ d ∈ l, d.nob = true
  | [] => by simp [nobAll]
  | d :: l => by simp [nobAll, nobAll_iff (l := l)]
theorem rd_put {a x : Addr} {u o : HO} {Cx dx : Addr} {fs : List (Str × V)} (hx : H x = some (.ins Cx dx fs)) (hu : ∀ C d g, u ≠ .ins C d g) (h : Rd H a u) : Rd (upd H x o) a u := by
  rcases h with h | ⟨oo, h⟩
  · exact .inl (by rw [upd_ne (fun z => by subst z; rw [hx] at h; exact hu _ _ _ (Option.some.inj h).symm)]; exact h)
  · exact .inr ⟨oo, by rw [upd_ne (fun z => by subst z; rw [hx] at h; cases h)]; exact h⟩
mutual
theorem Is.put {a Cx dx : Addr} {fs : List (Str × V)} {o : HO} (hx : H a = some (.ins Cx dx fs)) : ∀ {v : V} {d : D}, Is K H v d → d.nob = true → Is K (upd H a o) v d
  | _, _, .non, _ => .non
  | _, _, .bl b, _ => .bl b
  | _, _, .int i, _ => .int i
  | _, _, .str x, _ => .str x
  | _, _, .ty n, _ => .ty n
  | _, _, .adr n, _ => .adr n
  | _, _, .tup h t, p => .tup (h.elim (fun h => .inl (rd_put hx (fun _ _ _ z => by cases z) h)) .inr) (IsAll.put hx t (by simpa [D.nob] using p))
  | _, _, .lst h t, p => .lst (h.elim (fun h => .inl (rd_put hx (fun _ _ _ z => by cases z) h)) .inr) (IsAll.put hx t (by simpa [D.nob] using p))
  | _, _, .ins h n t, p => by simp [D.nob] at p
theorem IsAll.put {a Cx dx : Addr} {fs : List (Str × V)} {o : HO} (hx : H a = some (.ins Cx dx fs)) : ∀ {vs : List V} {l : List D}, IsAll K H vs l → nobAll l = true → IsAll K (upd H a o) vs l
  | _, _, .nil, _ => .nil
  | _, _, .cons h t, p => .cons (Is.put hx h (by simp [nobAll] at p; exact p.1)) (IsAll.put hx t (by simp [nobAll] at p; exact p.2))
end
theorem put_keys {f : Str} {v : V} : ∀ {fs : List (Str × V)}, f ∉ fs.map (·.1) → putF f v fs = fs ++ [(f, v)]
  | [], _ => rfl
  | (g, u) :: r, h => by
    have h1 : g ≠ f := fun z => h (by simp [z])
    show (if g = f then _ else _) = _
    rw [if_neg h1, put_keys (fs := r) (fun z => h (by simp at z ⊢; exact .inr z))]
    rfl
/-- the instance at a under its __init__: what it has so far -/
def ZI (K : PySem.W.Frag) (a C dx : Addr) (ns : List Str) (l : List D) : Hp → Prop := fun H => ∃ fs, H a = some (.ins C dx fs) ∧ fs.map (·.1) = ns ∧ IsAll K H (fs.map (·.2)) l
theorem ZI.mono {a C dx : Addr} {H H' : Hp} (e : Ex H H') (h : ZI K a C dx ns l H) : ZI K a C dx ns l H' := by
  obtain ⟨fs, h1, h2, h3⟩ := h
  exact ⟨fs, e _ _ h1, h2, h3.mono e⟩
theorem hid_upd {P : List Addr} {a : Addr} {o : HO} (h : a ∉ P) : hid P (upd H a o) = upd (hid P H) a o := by
  funext b
  by_cases hb : b = a
  · subst hb
    rw [hid_at h, upd_same, upd_same]
  · rw [upd_ne hb]
    unfold hid
    rw [upd_ne hb]
def nobS : Slot → Bool
  | .no => true
  | .val d => d.nob
  | .own _ l => nobAll l
theorem Env.put {a dx : Addr} {f : Str} {v : V} {σ : L2.St} {fs : List (Str × V)} (e : Env K [a] H0 (ZI K a C dx ns l) E σ H) (hE : ∀ s ∈ E, nobS s = true) (hv : Is K H v d) (im : d.im = true) (hd : d.nob = true) (hl : nobAll l = true) (hf : f ∉ ns) (ha : H a = some (.ins C dx fs)) :
    Env K [a] H0 (ZI K a C dx (ns ++ [f]) (l ++ [d])) E σ (upd H a (.ins C dx (putF f v fs))) := by
  have no : a ∉ ows E := fun m => by
    obtain ⟨xs, q⟩ := e.lsts a m
    rw [ha] at q
    cases q
  have hh : hid (ows E) H a = some (.ins C dx fs) := by rw [hid_at no]; exact ha
  refine ⟨fun b o hb q => ?_, e.inj, e.fr, e.len, fun i d' q => ?_, fun i p l' q => ?_, ?_, fun x q => q.mono x⟩
  · rw [upd_ne (fun z => hb (by simp [z]))]
    exact e.ex b o hb q
  · obtain ⟨u, h1, h2⟩ := e.val i d' q
    refine ⟨u, h1, ?_⟩
    rw [hid_upd no]
    exact h2.put hh (hE _ (List.mem_of_getElem? q))
  · obtain ⟨h1, vs, h2, h3⟩ := e.own i p l' q
    refine ⟨h1, vs, ?_, ?_⟩
    · rw [upd_ne (fun z => by subst z; rw [ha] at h2; cases h2)]
      exact h2
    · rw [hid_upd no]
      exact h3.put hh (hE _ (List.mem_of_getElem? q))
  · obtain ⟨fs', h1, h2, h3⟩ := e.pin
    rw [hh] at h1
    cases h1
    rw [hid_upd no]
    refine ⟨_, upd_same, ?_, ?_⟩
    · rw [put_keys (by rw [h2]; exact hf), List.map_append, h2]
      rfl
    · rw [put_keys (by rw [h2]; exact hf), List.map_append]
      exact (h3.put hh hl).append (.one ((hv.clean e.lsts im).put hh hd))
theorem sd_fld {a dx : Addr} {f : Str} (hs : EP K [a] H0 (ZI K a C dx ns l) ta E (.adr a)) (h : EP K [a] H0 (ZI K a C dx ns l) te E d) (c : Cls K C) (n : NoAttr K C f) (hE : ∀ s ∈ E, nobS s = true) (im : d.im = true) (hd : d.nob = true) (hl : nobAll l = true) (hf : f ∉ ns) (hz : ns.length < 1000)
    (k : SD K [a] H0 (ZI K a C dx (ns ++ [f]) (l ++ [d])) tNext De E) : SD K [a] H0 (ZI K a C dx ns l) (sFld K ta te f) De E := fun σ H e =>
  h σ H e _ fun y H1 e1 h1 => hs σ H1 (e.ext e1) _ fun v H2 e2 h2 => by
    cases h2
    have e' := e.ext (e1.trans e2)
    obtain ⟨fs, q1, q2, q3⟩ := e'.pin
    have q1' := (hid_some q1).2
    refine ⟨a, C, dx, fs, rfl, q1', c, n, ?_, k σ _ (e'.put hE (h1.mono e2) im hd hl hf q1')⟩
    have := congrArg List.length q2
    rw [List.length_map] at this
    omega
theorem env_entryI {N : List Str} {us : List V} {ds : List D} {a dx : Addr} (hx : H a = some (.ins C dx [])) (h : IsAll K H us ds) (hN : ds.length + 1 ≤ N.length) :
    Env K [a] H (ZI K a C dx [] []) (entry N (.adr a :: ds)) (start N (.ref a :: us)) H := by
  have e := env_entry (N := N) (vs := .ref a :: us) (ds := .adr a :: ds) (.cons (.adr a) h) (by simpa using hN)
  refine ⟨fun b o _ q => q, e.inj, fun i p l q => .inr ((e.fr i p l q).elim (fun z => absurd z (by simp)) id), e.len, e.val, e.own, ?_, fun x q => q.mono x⟩
  rw [ows_entry, hid_nil]
  exact ⟨[], hx, rfl, .nil⟩
end
section
variable {P : Program} {w : World} {K : PySem.W.Frag} {mg : Str → Option Value} {base : Heap}
/-- the ends of an __init__ -/
def OkI (K : PySem.W.Frag) (H : Hp) (a C dx : Addr) (ns : List Str) (l : List Y.D) (D : Ends) : Prop := ∀ E σ H', Env K [a] H (ZI K a C dx ns l) E σ H' → D.nx σ H'
theorem sd_endI {H : Hp} {a C dx : Addr} {ns : List Str} {l : List Y.D} {D : Ends} {E : List Slot} (o : OkI K H a C dx ns l D) : SD K [a] H (ZI K a C dx ns l) tNext D E := fun σ H' e => o E σ H' e
theorem init_ok {x qual : Str} {st : Stmt} {f C : Addr} {fd : FuncData} {N ps : List Str} {k : Nat} {pre : List D → List Str → List D → Prop} (F : Fun K x qual st f fd) (S : FnScope N ps (defScope st)) (len : ∀ ds ns l, pre ds ns l → ds.length + 1 = ps.length) (hN : ps.length ≤ N.length)
    (hb : ∀ (cdv : Value) (A : Around) (outer : List PySem.Env) (s : Shared) (H : Hp) (E : XK), Room k (A.deeper (PyProof.Rows.envOfC qual (defScope st) s.heap.objs.size f cdv)) →
      ∃ t, PSs (cxOf CX0 P w K mg base N qual (defScope st) f cdv A outer s H E).nox (defBody st) t ∧ ∀ ds ns l a dx, pre ds ns l → ∀ D : Ends, OkI K H a C dx ns l D → SD K [a] H (ZI K a C dx [] []) t D (entry N (.adr a :: ds))) :
    FnOk P w K mg base CX0 (k + 1) f fd ps (InitP K C pre) := by
  refine F.ok S (fun vs H Q E h => ?_) (fun cdv A outer s H vs Q E hr h => ?_)
  · obtain ⟨x, dx, us, ds, ns, l, rfl, _, h1, h2, _⟩ := h
    have := len ds ns l h2
    rw [List.length_cons, h1.length, this]
  · obtain ⟨t, ht, hs⟩ := hb cdv A outer s H E hr
    refine ⟨t, ht, ?_⟩
    obtain ⟨x, dx, us, ds, ns, l, rfl, hx, h1, h2, h3⟩ := h
    have := len ds ns l h2
    refine hs ds ns l x dx h2 _ (fun E σ H' e => ?_) _ _ (env_entryI hx h1 (by omega))
    obtain ⟨fs, q1, q2, q3⟩ := e.pin
    exact h3 H' fs (fun a o ha q => e.ex a o (by simpa using ha) q) (hid_some q1).2 q2 (q3.mono (hid_le _ _))
end
section
variable {K : PySem.W.Frag} {B : List Addr} {H0 H : Hp} {Z : Hp → Prop} {E : List Slot} {ta tb tc te : TE} {t : TT} {ea : TA} {x y z d : D} {l m : List D} {b c : Bool} {De : Ends} {tx : TS} {C : Addr} {ns : List Str} {k : Nat}
theorem ep_make {pre : List D → List Str → List D → Prop} {ex : XK} (h : EA K B H0 Z ea E l) (hp : pre l ns m) : EP K B H0 Z (tMake C (InitP K C pre) [] ex ea) E (.ins C ns m) := fun σ H e Q q =>
  h σ H e _ fun vs H1 e1 h1 => fun x dx nx ndx ne => by
    have up : Ex H1 (upd (upd H1 dx (.own x)) x (.ins C dx [])) := (Ex.new ndx).trans (Ex.new (by rw [upd_ne (Ne.symm ne)]; exact nx))
    refine ⟨x, dx, vs, l, ns, m, by rw [List.append_nil], upd_same, h1.mono up, hp, fun H' fs k hx hn hl => ⟨rfl, q _ H' (fun a o z => ?_) (.ins hx hn hl)⟩⟩
    have z1 := e1 a o z
    exact k a o (fun y => by rw [y, nx] at z1; cases z1) (up a o z1)
theorem r1_inv {pre : List D → D → Prop} (hp : pre [.ins C ns l] d) : R1d K (rInv C (Pure K pre)) (.ins C ns l) d := fun v H h Q q => by
  obtain ⟨a, dx, fs, rfl, ha, hn, hl⟩ := h.ins_inv
  exact ⟨a, dx, fs, rfl, ha, [.ins C ns l], d, .one h, hp, q⟩
theorem r2_eqO {pre : List D → D → Prop} {ns' : List Str} (hp : pre [.ins C ns l, .ins C ns' m] d) : R2d K (rEqO K C (Pure K pre)) (.ins C ns l) (.ins C ns' m) d := fun v u H h h' Q q => by
  obtain ⟨a, dx, fs, rfl, ha, hn, hl⟩ := h.ins_inv
  obtain ⟨a', dx', fs', rfl, ha', hn', hl'⟩ := h'.ins_inv
  exact ⟨a, dx, fs, a', dx', fs', rfl, rfl, ha, ha', [.ins C ns l, .ins C ns' m], d, .cons h (.one h'), hp, q⟩
theorem look_none {H : Hp} {f : Str} : ∀ {fs : List (Str × V)}, f ∉ fs.map (·.1) → fs.lookup f = none
  | [], _ => rfl
  | (n, v) :: fs, h => by
    rw [L2.lookup_put, if_neg (fun z => h (by simp [z]))]
    exact look_none (H := H) (fun z => h (by simp at z ⊢; exact .inr z))
theorem ep_meS {me : Str} {pre : List D → D → Prop} {preX : List D → Addr → Int → Prop} {W : L2.St → XK} (ho : EP K B H0 Z ta E (.ins C ns l)) (hm : me ∉ ns) (h : EA K B H0 Z ea E m) (hp : pre (.ins C ns l :: m) d) : EP K B H0 Z (tMeS C me (PureX K pre preX) W ta ea) E d := fun σ H e Q q =>
  ho σ H e _ fun v H1 e1 h1 => by
    obtain ⟨a, dx, fs, rfl, ha, hn, hl⟩ := h1.ins_inv
    refine ⟨a, dx, fs, rfl, ha, look_none (H := H1) (by rw [hn]; exact hm), h σ H1 (e.ext e1) _ fun vs H2 e2 h2 => ⟨_, .cons (h1.mono e2) h2, .inl ⟨d, hp, fun v H3 e3 h3 => q v H3 ((e1.trans e2).trans e3) h3⟩⟩⟩
theorem er_meS {me : Str} {pre : List D → D → Prop} {preX : List D → Addr → Int → Prop} {W : L2.WX} {C' : Addr} {n : Int} (ho : EP K B H0 Z ta E (.ins C ns l)) (hm : me ∉ ns) (h : EA K B H0 Z ea E m) (hp : preX (.ins C ns l :: m) C' n) (hw : WX_ K B H0 Z E W C' n) : ER K B H0 Z (tMeS C me (PureX K pre preX) (WE W) ta ea) E := fun σ H e Q =>
  ho σ H e _ fun v H1 e1 h1 => by
    obtain ⟨a, dx, fs, rfl, ha, hn, hl⟩ := h1.ins_inv
    exact ⟨a, dx, fs, rfl, ha, look_none (H := H1) (by rw [hn]; exact hm), h σ H1 (e.ext e1) _ fun vs H2 e2 h2 => ⟨_, .cons (h1.mono e2) h2, .inr ⟨C', n, hp, fun dd H3 e3 h3 => hw σ H3 (e.ext ((e1.trans e2).trans e3)) dd h3⟩⟩⟩
end
end Y
set_option Elab.async false
set_option linter.all false
set_option autoImplicit false
set_option maxRecDepth 100000
set_option maxHeartbeats 1000000
/-! Draws: a list of ints that is handed on and popped; what comes out is any int in its bounds. -/
namespace Y
open PySem L2
/-- all but p stays -/
def Drw (H H' : Hp) (p : Addr) : Prop := ∀ a o, a ≠ p → H a = some o → H' a = some o
theorem Drw.refl (H : Hp) (p : Addr) : Drw H H p := fun _ _ _ h => h
theorem Drw.trans {H H1 H2 : Hp} {p : Addr} (a : Drw H H1 p) (b : Drw H1 H2 p) : Drw H H2 p := fun x o n h => b x o n (a x o n h)
theorem Ex.drw {H H' : Hp} {p : Addr} (e : Ex H H') : Drw H H' p := fun a o _ h => e a o h
theorem Drw.hid {H H' : Hp} {p : Addr} {P : List Addr} (d : Drw H H' p) (hp : p ∈ P) : Ex (hid P H) (hid P H') := fun a o h => by
  obtain ⟨h1, h2⟩ := hid_some h
  rw [hid_at h1]
  exact d a o (fun z => h1 (z ▸ hp)) h2
abbrev iv (ns : List Int) : HO := .lst (ns.map V.int)
abbrev dr (p : Addr) (ns : List Int) : Slot := .own p (ns.map D.int)
/-- the promise of a def that draws: its first parameter is the list at p -/
def DrawP (K : PySem.W.Frag) (ok : List D → Prop) (pre : List D → D → Prop) : Sp := fun vs H Q _ => ∃ p us ds ns, vs = .ref p :: us ∧ H p = some (iv ns) ∧ IsAll K (hid [p] H) us ds ∧ ok ds ∧
  ∀ v H' d ns', Drw H H' p → H' p = some (iv ns') → Is K (hid [p] H') v d → pre ds d → Q v H'
/-- the slots by what is left of the draws: at slot i, address p -/
structure DS (S : List Int → List Slot) (i : Nat) (p : Addr) : Prop where
  at_ : ∀ ns, (S ns)[i]? = some (dr p ns)
  set : ∀ ns ns', S ns' = (S ns).set i (dr p ns')
theorem ds_ows {S : List Int → List Slot} {i : Nat} {p : Addr} (h : DS S i p) (ns ns' : List Int) : ∀ a, a ∈ ows (S ns') ↔ a ∈ ows (S ns) := by
  have one : ∀ ns ns' a, a ∈ ows (S ns') → a ∈ ows (S ns) := fun ns ns' a ha => by
    obtain ⟨j, l, hj⟩ := mem_ows.mp ha
    rw [h.set ns ns'] at hj
    rcases set_get hj with ⟨rfl, z, _⟩ | ⟨_, z⟩
    · injection z with z1 z2
      exact mem_ows.mpr ⟨_, _, z1 ▸ h.at_ ns⟩
    · exact mem_ows.mpr ⟨j, l, z⟩
  exact fun a => ⟨one ns ns' a, one ns' ns a⟩
theorem hid_ows {S : List Int → List Slot} {i : Nat} {p : Addr} (h : DS S i p) (ns ns' : List Int) (H : Hp) : hid (ows (S ns')) H = hid (ows (S ns)) H := by
  funext a
  unfold Y.hid
  simp only [ds_ows h ns ns' a]
theorem ds_in {S : List Int → List Slot} {i : Nat} {p : Addr} (h : DS S i p) (ns : List Int) : p ∈ ows (S ns) := mem_ows.mpr ⟨i, _, h.at_ ns⟩
section
variable {K : PySem.W.Frag} {B : List Addr} {H0 : Hp} {Z : Hp → Prop} {E : List Slot} {S : List Int → List Slot} {i : Nat} {p : Addr} {ta tb tc te : TE} {t u : TT} {ea : TA} {x y z d : D} {l m : List D} {b c : Bool}
theorem Env.dat {ns : List Int} {σ : L2.St} {H : Hp} (h : DS S i p) (e : Env K B H0 Z (S ns) σ H) : σ[i]? = some (some (.ref p)) ∧ H p = some (iv ns) := by
  obtain ⟨h1, vs, h2, h3⟩ := e.own i p _ (h.at_ ns)
  rw [IsAll.ints h3] at h2
  exact ⟨h1, h2⟩
theorem Env.drawn {ns ns' : List Int} {σ : L2.St} {H H' : Hp} (h : DS S i p) (e : Env K B H0 Z (S ns) σ H) (dw : Drw H H' p) (hp : H' p = some (iv ns')) : Env K B H0 Z (S ns') σ H' := by
  have hi : i < (S ns).length := (List.getElem?_eq_some_iff.mp (h.at_ ns)).1
  have hd : Ex (Y.hid (ows (S ns)) H) (Y.hid (ows (S ns')) H') := by
    rw [hid_ows h ns ns']
    exact dw.hid (ds_in h ns)
  have cases' : ∀ {j : Nat} {s : Slot}, (S ns')[j]? = some s → (i = j ∧ s = dr p ns') ∨ (i ≠ j ∧ (S ns)[j]? = some s) := fun {j s} hj => by
    rw [h.set ns ns'] at hj
    rcases set_get hj with ⟨a, b, _⟩ | q
    · exact .inl ⟨a, b.symm⟩
    · exact .inr q
  have own' : ∀ {j : Nat} {q : Addr} {l : List D}, (S ns')[j]? = some (.own q l) → ∃ l', (S ns)[j]? = some (.own q l') := fun {j q l} hj => by
    rcases cases' hj with ⟨rfl, z⟩ | ⟨_, z⟩
    · injection z with z1 z2
      exact ⟨_, z1 ▸ h.at_ ns⟩
    · exact ⟨_, z⟩
  refine ⟨fun a o hb q => ?_, fun a b q l m h1 h2 => ?_, fun a q l h1 => ?_, ?_, fun j d q => ?_, fun j q l hj => ?_, e.zm hd e.pin, e.zm⟩
  · have hap : a ≠ p := fun z => by
      rcases e.fr i p _ (h.at_ ns) with w | w
      · exact hb (by rw [z]; exact w)
      · rw [z, w] at q; cases q
    exact dw a o hap (e.ex a o hb q)
  · obtain ⟨_, z1⟩ := own' h1
    obtain ⟨_, z2⟩ := own' h2
    exact e.inj a b q _ _ z1 z2
  · obtain ⟨_, z1⟩ := own' h1
    exact e.fr a q _ z1
  · rw [e.len, h.set ns ns', List.length_set]
  · rcases cases' q with ⟨_, z⟩ | ⟨_, z⟩
    · cases z
    · obtain ⟨w, q1, q2⟩ := e.val j d z
      exact ⟨w, q1, q2.mono hd⟩
  · rcases cases' hj with ⟨rfl, z⟩ | ⟨hij, z⟩
    · injection z with z1 z2
      subst z1 z2
      exact ⟨(e.dat h).1, _, hp, isAll_ints _⟩
    · obtain ⟨q1, vs, q2, q3⟩ := e.own j q l z
      have hqp : q ≠ p := fun w => hij (e.inj i j p _ _ (h.at_ ns) (w ▸ z))
      exact ⟨q1, vs, dw _ _ hqp q2, q3.mono hd⟩
end
section
variable (K : PySem.W.Frag) (B : List Addr) (H0 : Hp) (Z : Hp → Prop)
/-- an expression that may draw: its value is one of P -/
def EN (te : TE) (S : List Int → List Slot) (p : Addr) (P : D → Prop) : Prop := ∀ ns σ H, Env K B H0 Z (S ns) σ H → ∀ Q : VK, (∀ v d ns' H', P d → Env K B H0 Z (S ns') σ H' → Drw H H' p → Is K (hid (ows (S ns)) H') v d → Q v H') → te σ H Q
def ENA (ta : TA) (S : List Int → List Slot) (p : Addr) (P : List D → Prop) : Prop := ∀ ns σ H, Env K B H0 Z (S ns) σ H → ∀ Q : List V → Hp → Prop, (∀ vs l ns' H', P l → Env K B H0 Z (S ns') σ H' → Drw H H' p → IsAll K (hid (ows (S ns)) H') vs l → Q vs H') → ta σ H Q
def ENT (t : TT) (S : List Int → List Slot) (p : Addr) (P : Bool → Prop) : Prop := ∀ ns σ H, Env K B H0 Z (S ns) σ H → ∀ Q : Bool → Hp → Prop, (∀ b ns' H', P b → Env K B H0 Z (S ns') σ H' → Drw H H' p → Q b H') → t σ H Q
/-- arguments whose values stand apart -/
def EAC (ta : TA) (E : List Slot) (l : List D) : Prop := ∀ σ H, Env K B H0 Z E σ H → ∀ Q : List V → Hp → Prop, (∀ vs H', Ex H H' → IsAll K (hid (ows E) H') vs l → Q vs H') → ta σ H Q
end
section
variable {K : PySem.W.Frag} {B : List Addr} {H0 : Hp} {Z : Hp → Prop} {E : List Slot} {S : List Int → List Slot} {i : Nat} {p : Addr} {ta tb tc te : TE} {t u : TT} {ea : TA} {x y z d : D} {l m : List D} {b c : Bool}
theorem eac_nil : EAC K B H0 Z tNil E [] := fun σ H _ Q q => q [] H (Ex.refl H) .nil
theorem eac_cons {tr : TA} (h : EC K B H0 Z te E d) (hr : EAC K B H0 Z tr E l) : EAC K B H0 Z (tCons te tr) E (d :: l) := fun σ H e Q q =>
  h σ H e _ fun v H1 e1 h1 => hr σ H1 (e.ext e1) _ fun vs H2 e2 h2 => q _ H2 (e1.trans e2) (.cons (h1.mono (hid_ex e2)) h2)
theorem ec_int {k : Int} : EC K B H0 Z (tC (.int k)) E (.int k) := ec_im ep_int rfl
theorem new_no {σ : L2.St} {H : Hp} {q : Addr} (e : Env K B H0 Z E σ H) (nq : H q = none) : q ∉ ows E := fun m => by
  obtain ⟨xs, w⟩ := e.lsts q m
  rw [nq] at w
  cases w
/-- [a, b, ..] of anything -/
theorem ec_lst (h : EAC K B H0 Z ea E l) (hl : l.length ≤ 100000 := by simp) : EC K B H0 Z (tLst ea) E (.lst l) := fun σ H e Q q =>
  h σ H e _ fun vs H1 e1 h1 => ⟨by rw [h1.length, sizeLine_eq]; omega, fun a na => q _ _ (e1.trans (Ex.new na)) (.lst (SqL.of (by rw [hid_at (new_no (e.ext e1) na)]; exact upd_same)) (h1.mono (hid_ex (Ex.new na))))⟩
theorem ec_ixL {k : Int} (h : EC K B H0 Z ta E (.lst l)) (hk : atI l k = some d) : EC K B H0 Z (tOp (rIxL K) ta (tC (.int k))) E d := fun σ H e Q q =>
  h σ H e _ fun v H1 e1 h1 => by
    cases h1 with
    | lst hq ht =>
      rename_i a xs
      have hl := ht.length
      obtain ⟨j, hj1, hj2⟩ := Option.bind_eq_some_iff.mp hk
      obtain ⟨v, hv, hv2⟩ := ht.getD hj2
      exact ⟨a, xs, k, v, rfl, rfl, sqL_ex (hid_le _ _) hq, Option.bind_eq_some_iff.mpr ⟨j, by rw [hl]; exact hj1, hv⟩, q v H1 e1 hv2⟩
theorem en_ec {P : D → Prop} (h : ∀ ns, EC K B H0 Z te (S ns) d) (hd : DS S i p) (hP : P d) : EN K B H0 Z te S p P := fun ns σ H e Q q => h ns σ H e Q fun v H' x h1 => q v d ns H' hP (e.ext x) x.drw h1
theorem en_weak {P P' : D → Prop} (h : EN K B H0 Z te S p P) (hw : ∀ d, P d → P' d) : EN K B H0 Z te S p P' := fun ns σ H e Q q => h ns σ H e Q fun v d ns' H' hp => q v d ns' H' (hw d hp)
theorem drw_is {ns : List Int} {v : V} {H H' : Hp} (hd : DS S i p) (dw : Drw H H' p) (h : Is K (hid (ows (S ns)) H) v d) : Is K (hid (ows (S ns)) H') v d := h.mono (dw.hid (ds_in hd ns))
theorem drw_isA {ns : List Int} {vs : List V} {H H' : Hp} (hd : DS S i p) (dw : Drw H H' p) (h : IsAll K (hid (ows (S ns)) H) vs l) : IsAll K (hid (ows (S ns)) H') vs l := h.mono (dw.hid (ds_in hd ns))
theorem ena_nil (hd : DS S i p) {P : List D → Prop} (hP : P []) : ENA K B H0 Z tNil S p P := fun ns σ H e Q q => q [] [] ns H hP e (Drw.refl H p) .nil
theorem ena_cons {tr : TA} {P1 : D → Prop} {P2 : D → List D → Prop} {P : List D → Prop} (hd : DS S i p) (h : EN K B H0 Z te S p P1) (hr : ∀ d, P1 d → ENA K B H0 Z tr S p (P2 d)) (hP : ∀ d l, P1 d → P2 d l → P (d :: l)) : ENA K B H0 Z (tCons te tr) S p P := fun ns σ H e Q q =>
  h ns σ H e _ fun v d ns1 H1 p1 e1 w1 h1 => hr d p1 ns1 σ H1 e1 _ fun vs l ns2 H2 p2 e2 w2 h2 => q _ (d :: l) ns2 H2 (hP d l p1 p2) e2 (w1.trans w2) (.cons (drw_is hd w2 h1) (by rw [hid_ows hd ns ns1] at h2; exact h2))
theorem en_op {r : R2} {P1 : D → Prop} {P2 : D → D → Prop} {P : D → Prop} (hd : DS S i p) (ha : EN K B H0 Z ta S p P1) (hb : ∀ x, P1 x → EN K B H0 Z tb S p (P2 x)) (hr : ∀ x y, P1 x → P2 x y → ∃ z, R2d K r x y z ∧ z.im = true ∧ P z) : EN K B H0 Z (tOp r ta tb) S p P := fun ns σ H e Q q =>
  ha ns σ H e _ fun v x ns1 H1 p1 e1 w1 h1 => hb x p1 ns1 σ H1 e1 _ fun u y ns2 H2 p2 e2 w2 h2 => by
    obtain ⟨z, hz, im, pz⟩ := hr x y p1 p2
    refine hz v u H2 ((drw_is hd w2 h1).mono (hid_le _ _)) (h2.mono (hid_le _ _)) Q fun o H3 x3 h3 => q o z ns2 H3 pz (e2.ext x3) ((w1.trans w2).trans x3.drw) ?_
    rw [← hid_ows hd ns ns2]
    exact h3.clean (e2.ext x3).lsts im
/-- a def that draws, called -/
theorem en_draw {tr : TA} {ok : List D → Prop} {pre : List D → D → Prop} {P : D → Prop} {ex : XK} (hd : DS S i p) (h : ∀ ns, EAC K B H0 Z tr (S ns) l) (hok : ok l) (hP : ∀ d, pre l d → P d) (him : (∀ d, pre l d → d.im = true) ∨ ∀ ns, ows (S ns) = [p]) :
    EN K B H0 Z (tCall (DrawP K ok pre) [] ex (tCons (tVar i) tr)) S p P := fun ns σ H e Q q => by
  obtain ⟨s1, s2⟩ := e.dat hd
  refine ⟨.ref p, s1, h ns σ H e _ fun vs H1 e1 h1 => ?_⟩
  refine ⟨p, vs, l, ns, by simp, e1 _ _ s2, h1.mono (hid_sub fun a ha => by simp at ha; rw [ha]; exact ds_in hd ns), hok, fun v H' d ns' w hp hv hpre => ?_⟩
  have e' := (e.ext e1).drawn hd w hp
  refine q v d ns' H' (hP d hpre) e' (e1.drw.trans w) ?_
  rcases him with hi | hi
  · have hc := (hv.mono (hid_le _ _)).clean e'.lsts (hi d hpre)
    rwa [hid_ows hd ns ns'] at hc
  · rw [hi ns]
    exact hv
theorem en_callP {ex : XK} {pre : List D → D → Prop} {PA : List D → Prop} {P : D → Prop} (hd : DS S i p) (h : ENA K B H0 Z ea S p PA) (hp : ∀ l, PA l → ∃ d, pre l d ∧ d.im = true ∧ P d) : EN K B H0 Z (tCall (Pure K pre) [] ex ea) S p P := fun ns σ H e Q q =>
  h ns σ H e _ fun vs l ns1 H1 p1 e1 w1 h1 => by
    obtain ⟨d, hd1, im, pd⟩ := hp l p1
    refine ⟨l, d, by rw [List.append_nil]; exact h1.mono (hid_le _ _), hd1, fun v H2 e2 h2 => q v d ns1 H2 pd (e1.ext e2) (w1.trans e2.drw) ?_⟩
    rw [← hid_ows hd ns ns1]
    exact h2.clean (e1.ext e2).lsts im
theorem en_callF {ex : XK} {pre : List D → List D → Prop} {PA : List D → Prop} {P : D → Prop} (hd : DS S i p) (h : ENA K B H0 Z ea S p PA) (hp : ∀ l, PA l → ∃ m, pre l m ∧ imAll m = true ∧ P (.lst m)) : EN K B H0 Z (tCall (Fresh K pre) [] ex ea) S p P := fun ns σ H e Q q =>
  h ns σ H e _ fun vs l ns1 H1 p1 e1 w1 h1 => by
    obtain ⟨m, hd1, im, pd⟩ := hp l p1
    refine ⟨l, m, by rw [List.append_nil]; exact h1.mono (hid_le _ _), hd1, fun a ws H2 na e2 ha h2 => q _ (.lst m) ns1 H2 pd (e1.ext e2) (w1.trans e2.drw) ?_⟩
    rw [← hid_ows hd ns ns1]
    exact .lst (SqL.of (by rw [hid_at (new_no e1 na)]; exact ha)) (h2.clean (e1.ext e2).lsts im)
theorem en_lst {PA : List D → Prop} {P : D → Prop} (hd : DS S i p) (h : ENA K B H0 Z ea S p PA) (hl : ∀ l, PA l → l.length ≤ 100000) (hP : ∀ l, PA l → P (.lst l)) : EN K B H0 Z (tLst ea) S p P := fun ns σ H e Q q =>
  h ns σ H e _ fun vs l ns1 H1 p1 e1 w1 h1 => ⟨by rw [h1.length, sizeLine_eq]; have := hl l p1; omega, fun a na => q _ (.lst l) ns1 _ (hP l p1) (e1.ext (Ex.new na)) (w1.trans (Ex.new na).drw) (.lst (SqL.of (by
    rw [← hid_ows hd ns ns1, hid_at (new_no e1 na)]
    exact upd_same)) (h1.mono (hid_ex (Ex.new na))))⟩
/-! ### tests, statements, a def that draws -/
variable {De : Ends} {tx ty : TS}
theorem ent_ev {P1 : D → Prop} {P : Bool → Prop} (h : EN K B H0 Z te S p P1) (hp : ∀ d, P1 d → ∃ b, d = .bl b ∧ P b) : ENT K B H0 Z (tTest te) S p P := fun ns σ H e Q q =>
  h ns σ H e _ fun v d ns' H' p1 e1 w1 h1 => by
    obtain ⟨b, rfl, pb⟩ := hp d p1
    cases h1
    exact ⟨b, rfl, q b ns' H' pb e1 w1⟩
theorem ent_et {P : Bool → Prop} (h : ∀ ns, ET K B H0 Z t (S ns) b) (hP : P b) : ENT K B H0 Z t S p P := fun ns σ H e Q q => h ns σ H e Q fun H' x => q b ns H' hP (e.ext x) x.drw
theorem ent_or {P1 P2 P : Bool → Prop} (h1 : ENT K B H0 Z t S p P1) (h2 : ENT K B H0 Z u S p P2) (hP : (P1 true → P true) ∧ ∀ b, P1 false → P2 b → P b) : ENT K B H0 Z (tOr t u) S p P := fun ns σ H e Q q =>
  h1 ns σ H e _ fun b ns1 H1 p1 e1 w1 => by
    cases b with
    | true => exact q true ns1 H1 (hP.1 p1) e1 w1
    | false => exact h2 ns1 σ H1 e1 _ fun b ns2 H2 p2 e2 w2 => q b ns2 H2 (hP.2 b p1 p2) e2 (w1.trans w2)
theorem sd_asgN {j : Nat} {P : D → Prop} (hd : DS S i p) (h : EN K B H0 Z te S p P) (k : ∀ d ns, P d → SD K B H0 Z tNext De ((S ns).set j (.val d))) : ∀ ns, SD K B H0 Z (tAsg te (gName j)) De (S ns) := fun ns σ H e =>
  h ns σ H e _ fun v d ns1 H1 p1 e1 w1 h1 => k d ns1 p1 _ H1 (e1.setC (by rw [hid_ows hd ns ns1]; exact h1))
theorem sd_ifN {P : Bool → Prop} (h : ENT K B H0 Z t S p P) (h1 : P true → ∀ ns, SD K B H0 Z tx De (S ns)) (h2 : P false → ∀ ns, SD K B H0 Z ty De (S ns)) : ∀ ns, SD K B H0 Z (tIfS t tx ty) De (S ns) := fun ns σ H e =>
  h ns σ H e _ fun b ns1 H1 p1 e1 w1 => by
    cases b with
    | true => exact h1 p1 ns1 σ H1 e1
    | false => exact h2 p1 ns1 σ H1 e1
/-- for _ in range(..), the bound drawn -/
theorem sd_forN {j : Nat} {tu : TS} {P : Int → Prop} (hd : DS S i p) (h : EN K B H0 Z te S p (fun d => ∃ n : Int, d = .int n ∧ P n ∧ 0 ≤ n ∧ n ≤ 100000)) (W : Nat → List Slot → Prop)
    (h0 : ∀ ns, W 0 (S ns)) (hs : ∀ (n : Int) (k : Nat) E, P n → (k : Int) < n → W k E → SD K B H0 Z tu (LW K B H0 Z De (W (k + 1))) (E.set j (.val (.int k)))) (hdn : ∀ n E, P n → 0 ≤ n → W n.toNat E → SD K B H0 Z tNext De E) :
    ∀ ns, SD K B H0 Z (tFor (iRng1 (tCons te tNil)) (gName j) tu) De (S ns) := fun ns σ H e =>
  h ns σ H e _ fun v d ns1 H1 p1 e1 w1 h1 => by
    obtain ⟨n, rfl, pn, n0, n1⟩ := p1
    cases h1
    refine ⟨n, rfl, by omega, by omega, for_range (lo := 0) (n := n.toNat) (fun k σ' H' => ∃ E, W k E ∧ Env K B H0 Z E σ' H') ⟨S ns1, h0 ns1, e1⟩ (fun k σ' H' hk ⟨E1, pi, q⟩ => ?_) (fun σ' H' ⟨E1, pi, q⟩ => hdn n E1 pn n0 pi _ _ q)⟩
    have e0 : (0 : Int) + (k : Int) = (k : Int) := Int.zero_add _
    show tu _ (σ'.set j (some (.int ((0 : Int) + (k : Int))))) H'
    rw [e0]
    exact hs n k E1 pn (by omega) pi _ _ (q.set (.int _) rfl)
end
/-- the ends of a def that draws -/
def OkD (K : PySem.W.Frag) (H : Hp) (p : Addr) (pre : D → Prop) (De : Ends) : Prop := ∀ v H' d ns', Drw H H' p → H' p = some (iv ns') → Is K (hid [p] H') v d → pre d → De.rt v H'
section
variable {K : PySem.W.Frag} {H0 : Hp} {Z : Hp → Prop} {S : List Int → List Slot} {i : Nat} {p : Addr} {te : TE} {d : D} {l : List D} {De : Ends} {pre : D → Prop}
theorem env_drw {ns : List Int} {σ : L2.St} {H : Hp} (hd : DS S i p) (e : Env K [p] H0 Z (S ns) σ H) : Drw H0 H p ∧ H p = some (iv ns) := ⟨fun a o n q => e.ex a o (by simpa using n) q, (e.dat hd).2⟩
theorem hid_one {ns : List Int} {H : Hp} (hd : DS S i p) : Ex (hid (ows (S ns)) H) (hid [p] H) := hid_sub fun a ha => by simp at ha; rw [ha]; exact ds_in hd ns
theorem sd_retD {ns : List Int} (hd : DS S i p) (h : EC K [p] H0 Z te (S ns) d) (o : OkD K H0 p pre De) (hp : pre d) : SD K [p] H0 Z (tRet te) De (S ns) := fun σ H e =>
  h σ H e _ fun v H1 e1 h1 => by
    obtain ⟨w1, w2⟩ := env_drw hd (e.ext e1)
    exact o v H1 d ns w1 w2 (h1.mono (hid_one hd)) hp
theorem sd_retDN {P : D → Prop} (hd : DS S i p) (h : EN K [p] H0 Z te S p P) (o : OkD K H0 p pre De) (hp : ∀ d, P d → pre d) : ∀ ns, SD K [p] H0 Z (tRet te) De (S ns) := fun ns σ H e =>
  h ns σ H e _ fun v d ns1 H1 p1 e1 _ h1 => by
    obtain ⟨w1, w2⟩ := env_drw hd e1
    exact o v H1 d ns1 w1 w2 (h1.mono (hid_one hd)) (hp d p1)
/-- an own list is handed back -/
theorem sd_retDO {ns : List Int} {j : Nat} {q : Addr} (hd : DS S i p) (hj : (S ns)[j]? = some (.own q l)) (hij : i ≠ j) (o : OkD K H0 p pre De) (hp : pre (.lst l)) : SD K [p] H0 Z (tRet (tVar j)) De (S ns) := fun σ H e => by
  obtain ⟨h1, vs, h2, h3⟩ := e.own j q l hj
  obtain ⟨w1, w2⟩ := env_drw hd e
  have hqp : q ≠ p := fun z => hij (e.inj i j p _ _ (hd.at_ ns) (z ▸ hj))
  exact ⟨_, h1, o _ H _ ns w1 w2 (.lst (SqL.of (by rw [hid_at (by simpa using hqp)]; exact h2)) (h3.mono (hid_one hd))) hp⟩
/-- the entry -/
def entryD (N : List Str) (p : Addr) (ds : List D) (ns : List Int) : List Slot := dr p ns :: (ds.map .val ++ List.replicate (N.length - (ds.length + 1)) .no)
theorem ds_entry (N : List Str) (p : Addr) (ds : List D) : DS (entryD N p ds) 0 p := ⟨fun _ => rfl, fun _ _ => rfl⟩
theorem ows_entryD (N : List Str) (p : Addr) (ds : List D) (ns : List Int) : ows (entryD N p ds ns) = [p] := by
  unfold entryD
  show p :: ows _ = [p]
  congr 1
  refine List.eq_nil_iff_forall_not_mem.mpr fun q hq => ?_
  obtain ⟨j, l, h⟩ := mem_ows.mp hq
  rcases List.mem_append.mp (List.mem_of_getElem? h) with h | h
  · obtain ⟨_, _, h⟩ := List.mem_map.mp h
    cases h
  · have := (List.mem_replicate.mp h).2
    cases this
theorem env_entryD {N : List Str} {us : List V} {ds : List D} {H : Hp} {ns : List Int} (hp : H p = some (iv ns)) (h : IsAll K (hid [p] H) us ds) (hN : ds.length + 1 ≤ N.length) : Env K [p] H (fun _ => True) (entryD N p ds ns) (start N (.ref p :: us)) H := by
  have hl := h.length
  have own1 : ∀ {j : Nat} {q : Addr} {l : List D}, (entryD N p ds ns)[j]? = some (.own q l) → j = 0 ∧ q = p ∧ l = ns.map D.int := fun {j q l} hj => by
    cases j with
    | zero =>
      have : dr p ns = .own q l := Option.some.inj hj
      injection this with a b
      exact ⟨rfl, a.symm, b.symm⟩
    | succ j =>
      have hj' : (ds.map Slot.val ++ List.replicate (N.length - (ds.length + 1)) .no)[j]? = some (.own q l) := hj
      rcases List.mem_append.mp (List.mem_of_getElem? hj') with h | h
      · obtain ⟨_, _, h⟩ := List.mem_map.mp h
        cases h
      · have := (List.mem_replicate.mp h).2
        cases this
  refine ⟨fun a o _ q => q, fun a b q l m h1 h2 => by rw [(own1 h1).1, (own1 h2).1], fun a q l h1 => .inl (by rw [(own1 h1).2.1]; simp), ?_, fun j d q => ?_, fun j q l hj => ?_, trivial, fun _ _ => trivial⟩
  · simp [L2.start, entryD, hl]
  · cases j with
    | zero =>
      have : dr p ns = .val d := Option.some.inj q
      cases this
    | succ j =>
      have hj' : (ds.map Slot.val ++ List.replicate (N.length - (ds.length + 1)) .no)[j]? = some (.val d) := q
      rw [ows_entryD]
      by_cases hi : j < ds.length
      · rw [List.getElem?_append_left (by simpa using hi), List.getElem?_map] at hj'
        cases e : ds[j]? with
        | none => rw [e] at hj'; cases hj'
        | some d' =>
          rw [e] at hj'
          have : d' = d := by simpa using hj'
          subst this
          obtain ⟨v, h1, h2⟩ := h.getD e
          refine ⟨v, ?_, h2⟩
          unfold L2.start
          rw [List.getElem?_append_left (by simp [hl]; omega), List.getElem?_map, List.getElem?_cons_succ, h1]
          rfl
      · rw [List.getElem?_append_right (by simpa using hi)] at hj'
        have := (List.mem_replicate.mp (List.mem_of_getElem? hj')).2
        cases this
  · obtain ⟨rfl, rfl, rfl⟩ := own1 hj
    refine ⟨rfl, _, hp, isAll_ints _⟩
end
section
variable {P : Program} {w : World} {K : PySem.W.Frag} {mg : Str → Option Value} {base : Heap}
theorem draw_ok {x qual : Str} {st : Stmt} {f : Addr} {fd : FuncData} {N ps : List Str} {k : Nat} {ok : List D → Prop} {pre : List D → D → Prop} (F : Fun K x qual st f fd) (S : FnScope N ps (defScope st)) (len : ∀ ds, ok ds → ds.length + 1 = ps.length) (hN : ps.length ≤ N.length)
    (hb : ∀ (cdv : Value) (A : Around) (outer : List PySem.Env) (s : Shared) (H : Hp) (E : XK), Room k (A.deeper (PyProof.Rows.envOfC qual (defScope st) s.heap.objs.size f cdv)) →
      ∃ t, PSs (cxOf CX0 P w K mg base N qual (defScope st) f cdv A outer s H E).nox (defBody st) t ∧ ∀ ds p, ok ds → ∀ D : Ends, OkD K H p (pre ds) D → (pre ds .non → ∀ σ H' ns', Drw H H' p → H' p = some (iv ns') → D.nx σ H') → ∀ ns, SD K [p] H (fun _ => True) t D (entryD N p ds ns)) :
    FnOk P w K mg base CX0 (k + 1) f fd ps (DrawP K ok pre) := by
  refine F.ok S (fun vs H Q E h => ?_) (fun cdv A outer s H vs Q E hr h => ?_)
  · obtain ⟨p, us, ds, ns, rfl, _, h1, h2, _⟩ := h
    have := len ds h2
    rw [List.length_cons, h1.length, this]
  · obtain ⟨t, ht, hs⟩ := hb cdv A outer s H E hr
    refine ⟨t, ht, ?_⟩
    obtain ⟨p, us, ds, ns, rfl, hp, h1, h2, h3⟩ := h
    have := len ds h2
    exact hs ds p h2 _ (fun v H' d ns' a b c e => h3 v H' d ns' a b c e) (fun hn σ H' ns' a b => h3 .non H' .non ns' a b .non hn) ns _ _ (env_entryD hp h1 (by omega))
end
end Y
set_option Elab.async false
set_option linter.all false
set_option autoImplicit false
set_option maxRecDepth 100000
set_option maxHeartbeats 1000000
/-! A comprehension over a range whose test draws; xs.append(ys.pop(drawn)). -/
namespace Y
open PySem L2
/-- a number as a value -/
def vN (n : Nat) : V := .int (n : Int)
/-- a test that does nothing but draw -/
def DT (tt : TT) (i : Nat) (p : Addr) : Prop := ∀ σ H ns, σ[i]? = some (some (.ref p)) → H p = some (iv ns) → ∀ Q : Bool → Hp → Prop, (∀ b H' ns', Drw H H' p → H' p = some (iv ns') → Q b H') → tt σ H Q
section
variable {K : PySem.W.Frag} {B : List Addr} {H0 : Hp} {Z : Hp → Prop} {E : List Slot} {S : List Int → List Slot} {i : Nat} {p : Addr} {ta tb tc te : TE} {t u : TT} {ea : TA} {x y z d : D} {l m : List D} {b c : Bool} {De : Ends}
theorem isAll_iD {H : Hp} : ∀ (xs : List Nat), IsAll K H (xs.map vN) (xs.map iD)
  | [] => .nil
  | x :: xs => .cons (.int _) (isAll_iD xs)
/-- [x for x in range(n) if a draw] -/
theorem en_lcD {j : Nat} {n : Int} (hd : DS S i p) (hij : i ≠ j) (hj : ∀ ns, j < (S ns).length) (h : ∀ ns, EA K B H0 Z ea (S ns) [.int n]) (hn : 0 ≤ n ∧ n < 100000) (ht : DT t i p) :
    EN K B H0 Z (tLc (iRng1 ea) (gName j) t (tVar j) [j]) S p (fun d => ∃ xs : List Nat, xs.Pairwise (· < ·) ∧ (∀ x ∈ xs, (x : Int) < n) ∧ d = .lst (xs.map iD)) := fun ns σ H e Q q =>
  h ns σ H e _ fun vs H1 e1 h1 => by
    have e' := e.ext e1
    obtain ⟨sp, hp⟩ := e'.dat hd
    have : vs = [.int n] := by
      cases h1 with
      | cons a t => cases a; cases t; rfl
    subst this
    refine ⟨n, rfl, by omega, by omega, fun a na => ?_⟩
    have ap : a ≠ p := fun z => by rw [z, hp] at na; cases na
    have hjl : j < σ.length := by rw [e.len]; exact hj ns
    refine lc_range (lo := 0) (n := n.toNat) (fun k H' => ∃ (ns' : List Int) (xs : List Nat), H' a = some (.lst (xs.map vN)) ∧ xs.Pairwise (· < ·) ∧ (∀ x ∈ xs, x < k) ∧ xs.length ≤ k ∧ H' p = some (iv ns') ∧ ∀ b o, b ≠ p → b ≠ a → H1 b = some o → H' b = some o) ?_ ?_ ?_
    · exact ⟨ns, [], upd_same, .nil, by simp, by simp, by rw [upd_ne (Ne.symm ap)]; exact hp, fun b o _ hb z => by rw [upd_ne hb]; exact z⟩
    · rintro k H2 hk ⟨ns', xs, c1, c2, c3, c4, c5, c6⟩
      have e0 : (0 : Int) + (k : Int) = (k : Int) := Int.zero_add _
      rw [e0]
      show wipe ((wipe σ [j]).set j (some (.int k))) [j] = wipe σ [j] ∧ _
      refine ⟨wipe1 σ j _, ?_⟩
      have sp2 : ((wipe σ [j]).set j (some (.int k)))[i]? = some (some (.ref p)) := by
        show ((σ.set j none).set j (some (.int k)))[i]? = _
        rw [List.getElem?_set_ne (Ne.symm hij), List.getElem?_set_ne (Ne.symm hij)]
        exact sp
      refine ht _ H2 ns' sp2 c5 _ fun b H3 ns3 w3 hp3 => ?_
      cases b with
      | false => exact ⟨ns3, xs, w3 _ _ ap c1, c2, fun x hx => Nat.lt_succ_of_lt (c3 x hx), Nat.le_succ_of_le c4, hp3, fun b o hb ha z => w3 _ _ hb (c6 b o hb ha z)⟩
      | true =>
        rw [if_pos rfl]
        refine ⟨.int k, ?_, _, w3 _ _ ap c1, ?_, ns3, xs ++ [k], ?_, ?_, ?_, ?_, ?_, ?_⟩
        · show ((σ.set j none).set j (some (.int k)))[j]? = _
          rw [List.getElem?_set_self (by simpa using hjl)]
        · rw [List.length_map, sizeLine_eq]; omega
        · rw [upd_same, List.map_append]; rfl
        · exact List.pairwise_append.mpr ⟨c2, by simp, fun x hx y hy => by simp at hy; rw [hy]; exact c3 x hx⟩
        · intro x hx
          rcases List.mem_append.mp hx with hx | hx
          · exact Nat.lt_succ_of_lt (c3 x hx)
          · simp at hx; omega
        · simp; omega
        · rw [upd_ne (Ne.symm ap)]; exact hp3
        · intro b o hb ha z
          rw [upd_ne ha]
          exact w3 _ _ hb (c6 b o hb ha z)
    · rintro H2 ⟨ns', xs, c1, c2, c3, c4, c5, c6⟩
      have dw : Drw H1 H2 p := fun b o hb z => c6 b o hb (fun w => by rw [w, na] at z; cases z) z
      refine q _ _ ns' H2 ⟨xs, c2, fun x hx => by have := c3 x hx; omega, rfl⟩ (e'.drawn hd dw c5) (e1.drw.trans dw) (.lst (SqL.of ?_) (isAll_iD xs))
      rw [hid_at (new_no e' na)]
      exact c1
theorem ers_map {α β : Type} (f : α → β) : ∀ (l : List α) (x : Nat), (l.map f).eraseIdx x = (l.eraseIdx x).map f
  | [], _ => rfl
  | _ :: _, 0 => rfl
  | a :: l, x + 1 => by
    show f a :: (l.map f).eraseIdx x = f a :: (l.eraseIdx x).map f
    rw [ers_map f l x]
theorem ints_vN {H : Hp} : ∀ {vs : List V} {l : List Nat}, IsAll K H vs (l.map iD) → vs = l.map vN
  | _, [], .nil => rfl
  | _, n :: ns, .cons h t => by
    cases h
    rw [ints_vN t]
    rfl
theorem sd_appPop {jl jn : Nat} {q1 q2 : Addr} {left names : List Nat} (hd : DS S i p) (h1 : ∀ ns, (S ns)[jl]? = some (.own q1 (left.map iD))) (h2 : ∀ ns, (S ns)[jn]? = some (.own q2 (names.map iD))) (hne : jl ≠ jn) (he : EN K B H0 Z te S p (fun d => ∃ x, x < left.length ∧ d = iD x))
    (hz : names.length < 1000 ∧ left.length < 1000) (k : ∀ ns x (hx : x < left.length), SD K B H0 Z tNext De (((S ns).set jl (.own q1 ((left.eraseIdx x).map iD))).set jn (.own q2 ((names ++ [left[x]]).map iD)))) :
    ∀ ns, SD K B H0 Z (tDrop (tBM K "list" rAppend (tVar jn) (tCons (tBM K "list" rPopAt (tVar jl) (tCons te tNil)) tNil))) De (S ns) := fun ns σ H e => by
  obtain ⟨s2, vs2, c2, _⟩ := e.own jn q2 _ (h2 ns)
  obtain ⟨s1, vs1, c1, _⟩ := e.own jl q1 _ (h1 ns)
  refine ⟨.ref q2, s2, .inl ⟨rfl, _, SqL.of c2⟩, .ref q1, s1, .inl ⟨rfl, _, SqL.of c1⟩, he ns σ H e _ fun v d ns1 H1 p1 e1 w1 hv => ?_⟩
  obtain ⟨x, hx, rfl⟩ := p1
  cases hv
  obtain ⟨_, vs3, c3, c4⟩ := e1.own jl q1 _ (h1 ns1)
  rw [ints_vN c4] at c3
  have hix : ixN (left.map vN).length (x : Int) = some x := by
    unfold ixN
    rw [List.length_map, if_pos (by omega), if_pos (by omega)]
    simp
  have hy : (left.map vN)[x]? = some (vN left[x]) := by rw [List.getElem?_map, List.getElem?_eq_getElem hx]; rfl
  refine ⟨q1, left.map vN, x, x, vN left[x], rfl, rfl, c3, by omega, by omega, (ixN_seq hix).1, hy, ?_⟩
  have ee : (left.map vN).eraseIdx x = (left.eraseIdx x).map vN := ers_map vN left x
  rw [ee]
  have e2 := e1.chg (l' := (left.eraseIdx x).map iD) (vs' := (left.eraseIdx x).map vN) (h1 ns1) (isAll_iD _)
  have g2 : ((S ns1).set jl (.own q1 ((left.eraseIdx x).map iD)))[jn]? = some (.own q2 (names.map iD)) := by rw [List.getElem?_set_ne hne]; exact h2 ns1
  obtain ⟨_, vs5, c5, c6⟩ := e2.own jn q2 _ g2
  rw [ints_vN c6] at c5
  refine ⟨q2, names.map vN, vN left[x], rfl, rfl, c5, by rw [List.length_map, sizeLine_eq]; omega, ?_⟩
  have e3 := e2.chg (l' := (names ++ [left[x]]).map iD) (vs' := (names ++ [left[x]]).map vN) g2 (isAll_iD _)
  have := k ns1 x hx σ _ e3
  rw [List.map_append] at this
  exact this
end
end Y
set_option Elab.async false
set_option linter.all false
set_option autoImplicit false
set_option maxRecDepth 100000
set_option maxHeartbeats 1000000
/-! [..] + drawn[i:j]. -/
namespace Y
open PySem L2
section
variable {K : PySem.W.Frag} {B : List Addr} {H0 : Hp} {Z : Hp → Prop} {E : List Slot} {S : List Int → List Slot} {i : Nat} {p : Addr} {ta tb tc te : TE} {l m : List D}
theorem en_catS {a b : Int} {P1 : List D → Prop} {P : D → Prop} (hd : DS S i p) (ha : ∀ ns, EF K B H0 Z ta (S ns) m) (him : imAll m = true) (h : EN K B H0 Z te S p (fun d => ∃ l, d = .lst l ∧ P1 l)) (hz : m.length ≤ 1000 ∧ ∀ l, P1 l → l.length ≤ 1000) (hp : ∀ l l', P1 l → l'.Sublist l → P (.lst (m ++ l'))) :
    EN K B H0 Z (tOp rCat ta (tSl (rSlL K) te (tPart (tC (.int a))) (tPart (tC (.int b))))) S p P := fun ns σ H e Q q =>
  ha ns σ H e _ fun r vs H1 nr e1 hr ir => by
    have e' := e.ext e1
    have rp : r ≠ p := fun z => by
      have := e1 _ _ (e.dat hd).2
      have h0 := (e.dat hd).2
      rw [← z, nr] at h0
      cases h0
    have rno : r ∉ ows (S ns) := new_no e nr
    have ir' : IsAll K (hid (ows (S ns)) H1) vs m := ir.clean e'.lsts him
    refine h ns σ H1 e' _ fun v d ns2 H2 p2 e2 w2 h2 => ?_
    obtain ⟨l, rfl, pl⟩ := p2
    cases h2 with
    | lst hq ht =>
      rename_i x xs
      refine ⟨a, rfl, b, rfl, x, xs, rfl, sqL_ex (hid_le _ _) hq, fun y ny => ?_⟩
      have hr2 : H2 r = some (.lst vs) := w2 _ _ rp hr
      have ex3 : Ex H2 (upd H2 y (.lst (cutV xs (some a) (some b)))) := Ex.new ny
      have hc : ∃ l', l'.Sublist l ∧ IsAll K (hid (ows (S ns)) H2) (cutV xs (some a) (some b)) l' := ⟨_, (List.take_sublist _ _).trans (List.drop_sublist _ _), (ht.drop _).take _⟩
      obtain ⟨l', hl', hc⟩ := hc
      have hlen : l'.length ≤ 1000 := Nat.le_trans hl'.length_le (hz.2 l pl)
      refine ⟨r, y, vs, cutV xs (some a) (some b), rfl, rfl, ex3 _ _ hr2, upd_same, by rw [ir.length, hc.length, sizeLine_eq]; have := hz.1; omega, fun z nz => ?_⟩
      have ex4 := ex3.trans (Ex.new (o := .lst (vs ++ cutV xs (some a) (some b))) nz)
      have e4 := e2.ext ex4
      have zno : z ∉ ows (S ns) := fun hm => new_no (e2.ext ex3) nz ((ds_ows hd ns ns2 z).mpr hm)
      refine q _ (.lst (m ++ l')) ns2 _ (hp l l' pl hl') e4 ((e1.drw.trans w2).trans ex4.drw) (.lst (SqL.of (by rw [hid_at zno]; exact upd_same)) ?_)
      exact ((ir'.mono (w2.hid (ds_in hd ns))).append hc).mono (hid_ex ex4)
end
end Y
set_option Elab.async false
set_option linter.all false
set_option autoImplicit false
set_option maxRecDepth 100000
set_option maxHeartbeats 1000000
/-! for .. in a generator's body. -/
namespace Y
open PySem PySem.Spec PyProof.Rows GenW L2
section
variable {prog : Program} {w : World} {A : Around} {R : GenEnd} {Y : Protocol} {n : Nat} {s₀ : Shared} {c : Code} {fs : List Frame} {s : Shared} {env : PySem.Env} {K : Flow → Sem PySem.Fin} {J : Value → Sem PySem.Fin} {gd : Bool → Bool} {lv : List Value → List Value}
/-- what a loop's code does with an exception -/
abbrev noted (env : PySem.Env) (e : Value) : Sem PySem.Fin := (do noteFrame e env; theTreesLotGoes e : Sem Unit).wrap (fun _ => .raise e) .raise id id
theorem segF_For {tg iter : Expr} {body : List Stmt} {pos : Pos} (hs : ∀ x, foldedSetIterable iter env x = pure x)
    (h : wpAny (model prog w) (A.over c fs) (eval iter env) (fun x s1 => wpAny (model prog w) (A.over c fs) (pyIter x) (fun it s2 => ∀ p, Seg (model prog w) A R Y n s₀ (.forLoop tg it body [] env) ((model prog w).den (.forLoop tg it body [] env))
      (.ret (fun r => ((match r with | .ok f => (.pure f : Sem Flow) | .error e => .raise e).onRaise (cameBack env)).wrap K J gd lv) none (gd false) (lv []) c p [] :: fs) s2) (fun x s' => Seg (model prog w) A R Y n s₀ c (J x) fs s') s1) (fun x s' => Seg (model prog w) A R Y n s₀ c (J x) fs s') s) :
    Seg (model prog w) A R Y n s₀ c ((exec (.For tg iter body [] pos) env).wrap K J gd lv) fs s := by
  rw [arm_exec_For]
  show Seg _ A R Y n s₀ c (.at pos fun _ => (eval iter env >>= fun x0 => foldedSetIterable iter env x0 >>= fun x => standAt iter.pos >>= fun _ => holding [x] (pyIter x) >>= fun it => runOwn (.forLoop tg it body [] env) env).wrap K J gd lv) fs s
  refine seg_at ?_
  rw [Sem.bind_eq_wrap', Sem.wrap_wrap]
  refine seg_wrap (wpAny_mono h (fun x s1 h1 => ?_) fun _ _ z => z)
  rw [hs x]
  show Seg _ A R Y n s₀ c (.at iter.pos fun _ => (holding [x] (pyIter x) >>= fun it => runOwn (.forLoop tg it body [] env) env).wrap K J gd lv) fs s1
  refine seg_at ?_
  rw [Sem.bind_eq_wrap', Sem.wrap_wrap]
  refine seg_wrap (wpAny_holding (wpAny_mono h1 (fun it s2 h2 => ?_) fun _ _ z => z))
  exact seg_call h2
theorem segF_loop {tg : Expr} {it : Value} {body : List Stmt}
    (h : wpAny (model prog w) (A.over (.forLoop tg it body [] env) fs) (pyNext it) (fun r s1 => match r with
      | none => Seg (model prog w) A R Y n s₀ (.block [] env) ((model prog w).den (.block [] env)) fs s1
      | some v => wpAny (model prog w) (A.over (.forLoop tg it body [] env) fs) (letOwnedTupleGo tg it v) (fun _ s2 => wpAny (model prog w) (A.over (.forLoop tg it body [] env) fs) (assign tg env v) (fun _ s3 =>
          Seg (model prog w) A R Y n s₀ (.forLoop tg it body [] env) ((execs body env).wrap (fun f => match f with
            | .next | .cont => .pure (.again (.forLoop tg it body [] env))
            | .brk => .pure (.done .next)
            | .ret v => .pure (.done (.ret v))) (noted env) id id) fs s3) (fun x s' => Seg (model prog w) A R Y n s₀ (.forLoop tg it body [] env) (noted env x) fs s') s2) (fun x s' => Seg (model prog w) A R Y n s₀ (.forLoop tg it body [] env) (noted env x) fs s') s1)
      (fun _ _ => False) s) : Seg (model prog w) A R Y n s₀ (.forLoop tg it body [] env) ((model prog w).den (.forLoop tg it body [] env)) fs s := by
  show Seg _ A R Y n s₀ _ ((forTurn tg it body [] env).onRaise (fun x => do noteFrame x env; theTreesLotGoes x)) fs s
  unfold forTurn
  rw [Sem.onRaise_eq_wrap]
  have er : ∀ (x : Value) (s' : Shared), Seg (model prog w) A R Y n s₀ (.forLoop tg it body [] env) (noted env x) fs s' → Seg (model prog w) A R Y n s₀ (.forLoop tg it body [] env) ((do noteFrame x env; theTreesLotGoes x : Sem Unit).bind fun _ => .raise x) fs s' := fun x s' hx => by
    rw [Sem.bind_eq_wrap]
    exact hx
  show Seg _ A R Y n s₀ _ (.at tg.pos fun _ => Sem.wrap _ _ _ _ ((pyNext it).onRaise _ >>= _)) fs s
  refine seg_at ?_
  rw [Sem.bind_eq_wrap', Sem.wrap_wrap, Sem.onRaise_eq_wrap, Sem.wrap_wrap]
  refine seg_wrap (wpAny_mono h (fun r s1 h1 => ?_) fun _ _ z => z.elim)
  cases r with
  | none =>
    show Seg _ A R Y n s₀ _ (.pure (.again (.block [] env))) fs s1
    exact seg_again rfl h1
  | some v =>
    show Seg _ A R Y n s₀ _ (Sem.wrap _ _ _ _ (letOwnedTupleGo tg it v >>= _)) fs s1
    rw [Sem.bind_eq_wrap', Sem.wrap_wrap]
    refine seg_wrap (wpAny_mono h1 (fun _ s2 h2 => ?_) fun x s' hx => er x s' hx)
    show Seg _ A R Y n s₀ _ (Sem.wrap _ _ _ _ (assign tg env v >>= _)) fs s2
    rw [Sem.bind_eq_wrap', Sem.wrap_wrap]
    refine seg_wrap (wpAny_mono h2 (fun _ s3 h3 => ?_) fun x s' hx => er x s' hx)
    show Seg _ A R Y n s₀ _ (Sem.wrap _ _ _ _ (execs body env >>= _)) fs s3
    rw [Sem.bind_eq_wrap', Sem.wrap_wrap]
    rw [Sem.wrap_congr (execs body env) _ _ (K' := fun f => match f with
            | .next | .cont => .pure (.again (.forLoop tg it body [] env))
            | .brk => .pure (.done .next)
            | .ret v => .pure (.done (.ret v))) (H' := noted env)
        (fun f => by cases f <;> rfl)
        (fun e => by first | exact Sem.bind_eq_wrap _ _ | (show (do noteFrame e env; theTreesLotGoes e : Sem Unit).bind (fun _ => .raise e) = _; rw [Sem.bind_eq_wrap]))]
    exact h3
/-- the end of the loop -/
theorem segF_block (h : Seg (model prog w) A R Y n s₀ (.block [] env) (.pure (.done .next)) fs s) : Seg (model prog w) A R Y n s₀ (.block [] env) ((model prog w).den (.block [] env)) fs s := h
end
/-! ### the rule -/
section
variable {X : Cx}
def tGFor (wi : TI) (g : TG) (tb : TGn) : TGn := fun D ys σ H => wi σ H fun J H1 => ∃ W : Nat → Nat → List V → L2.St → Hp → Prop, (∃ m, W 0 m ys σ H1) ∧ ∀ i m ys σ H, W i m ys σ H →
  (J.stop i H ∧ D.nx ys σ H) ∨ (J.go i H ∧ ∃ N : List V → L2.St → Hp → Prop, (∀ ys' σ' H', N ys' σ' H' → ∃ m', m' < m ∧ W (i + 1) m' ys' σ' H') ∧ ∀ x H', J.yld i H x H' → g x σ H' fun σ2 H2 => tb { D with nx := N, ct := N, bk := D.nx } ys σ2 H2)
theorem gs_for {tg iter : Expr} {body : List Stmt} {pos : Pos} {wi : TI} {g : TG} {tb : TGn} (hp : PassesOwn (model X.prog X.w) X.A X.env X.xe) (hc : X.calm = true) (hi : PI X tg iter wi) (hg : PG X tg g) (hb : GSs X body tb)
    (hs : ∀ x, foldedSetIterable iter X.env x = pure x := by intro _; rfl) : GS X (.For tg iter body [] pos) (tGFor wi g tb) := by
  refine ⟨fun A S ip R n ys s₀ c fs K J gd lv s σ H D gc hn k hI ht => ?_⟩
  refine segF_For hs ?_
  rw [gc.over]
  obtain ⟨acc, cc, r, I⟩ := hI
  refine wpAny_mono (hi.run _ s σ H _ I ht) (fun v s1 h1 => wpAny_mono h1 (fun itv s2 h2 p => ?_) fun x s' hx => k.exc n s₀ x s' hx) fun x s' hx => k.exc n s₀ x s' hx
  obtain ⟨it, fp, tn, Jt, H2, rfl, I2, T, st2, f2, W, ⟨m0, w0⟩, turn⟩ := h2
  have gl := fun (kk : Result → Sem PySem.Fin) => gc_loop (k := kk) (c' := .forLoop tg (.ref it) body [] X.env) (l := lv []) (kp := []) (p := p) gc rfl rfl
  have hS : ∀ b ∈ fp, S ≠ b := fun b hb => (f2 b hb).2.2.2.2.2 (S, lstObj acc cc) (List.mem_append_right _ List.mem_cons_self)
  have stat : ∀ {H' : Hp} (acc' : Array Value) (c' : Nat), (∀ b ∈ fp, H' b = none) → ∀ b ∈ fp, FpOk X ((S, lstObj acc' c') :: ip) H' b := fun {H'} acc' c' hn b hb => by
    obtain ⟨_, q1, q2, q3, q4, q5⟩ := f2 b hb
    refine ⟨hn b hb, q1, q2, q3, q4, fun pp hp => ?_⟩
    rcases List.mem_append.mp hp with hp | hp
    · exact q5 pp (List.mem_append_left _ hp)
    · rcases List.mem_cons.mp hp with hp | hp
      · rw [hp]; exact hS b hb
      · exact q5 pp (List.mem_append_right _ (List.mem_cons_of_mem _ hp))
  have loop : ∀ (m i n : Nat) (ys : List V) (s₀ s : Shared) (σ : L2.St) (H : Hp), n + ys.length = sizeLine → W i m ys σ H → GI X S ip ys σ H s → tn i s.heap → (∀ b ∈ fp, H b = none) →
      Seg (model X.prog X.w) A R (GY X S) n s₀ (.forLoop tg (.ref it) body [] X.env) ((model X.prog X.w).den (.forLoop tg (.ref it) body [] X.env))
        (.ret (fun r => ((match r with | .ok f => (.pure f : Sem Flow) | .error e => .raise e).onRaise (cameBack X.env)).wrap K J gd lv) none (gd false) (lv []) c p [] :: fs) s := by
    intro m
    induction m using Nat.strongRecOn with
    | ind m ih =>
      intro i n ys s₀ s σ H hn w hI st fr
      have ee : ∀ (n : Nat) (s₀ : Shared) (x : Value) (s' : Shared), X.xe x s' → Seg (model X.prog X.w) A R (GY X S) n s₀ (.forLoop tg (.ref it) body [] X.env) (noted X.env x)
          (.ret (fun r => ((match r with | .ok f => (.pure f : Sem Flow) | .error e => .raise e).onRaise (cameBack X.env)).wrap K J gd lv) none (gd false) (lv []) c p [] :: fs) s' := fun n s₀ x s' hx => by
        refine seg_wrap ?_
        rw [(gl _).over]
        refine wpAny_bind (wpAny_mono (hp x s' hx) (fun _ s'' hcb => wpAny_theTreesLotGoes ?_) fun y s'' hcb => ?_)
        · exact seg_leaf (.error x) (seg_cameBack gc k hcb)
        · exact seg_leaf (.error y) (seg_cameBack gc k hcb)
      refine segF_loop ?_
      rw [(gl _).over]
      obtain ⟨acc, cc, r, I3⟩ := hI
      rcases turn i m ys σ H w with ⟨stop, qn⟩ | ⟨go, N, hN, step⟩
      · refine thn (T.done X rfl rfl rfl hc i _ s σ H (fun _ _ => False) I3 (stat acc cc fr) st stop) fun rr s4 hh => ?_
        obtain ⟨rfl, I4⟩ := hh
        exact segF_block (seg_leaf (.ok .next) (k.ok n ys s₀ s4 .next hn ⟨σ, H, ⟨acc, cc, r, I4⟩, qn⟩))
      · refine thn (T.item X rfl rfl rfl hc i _ s σ H (fun _ _ => False) I3 (stat acc cc fr) st go) fun rr s4 hh => ?_
        obtain ⟨u, rfl, h4⟩ := hh
        refine wpAny_mono h4 (fun _ s5 hh => ?_) fun _ _ z => z.elim
        obtain ⟨x, H5, I5, r5, y5, st5, fr5⟩ := hh
        have I5' := I5.pinned (stat acc cc fr5) (T.obj _ _ st5)
        refine wpAny_mono (hg.run _ s5 σ H5 x u _ I5' r5 (step x H5 y5)) (fun _ s6 hh => ?_) fun y s' hx => ee n s₀ y s' hx
        obtain ⟨σ6, H6, I6, q6⟩ := hh
        have gc' : GC X S (ip ++ pinsAt fp s5.heap) A (.forLoop tg (.ref it) body [] X.env) (.ret (fun r => ((match r with | .ok f => (.pure f : Sem Flow) | .error e => .raise e).onRaise (cameBack X.env)).wrap K J gd lv) none (gd false) (lv []) c p [] :: fs) id :=
          ⟨gc.pn, fun pp hp => by
            rcases List.mem_append.mp hp with hp | hp
            · exact gc.ip pp hp
            · exact (hS _ (of_pinsAt hp).1).symm, gc.apart, (gl _).over, (gl (fun r => ((match r with | .ok f => (.pure f : Sem Flow) | .error e => .raise e).onRaise (cameBack X.env)).wrap K J gd lv)).split, (gl (fun r => ((match r with | .ok f => (.pure f : Sem Flow) | .error e => .raise e).onRaise (cameBack X.env)).wrap K J gd lv)).guard, rfl⟩
        have back : ∀ {ys' : List V} {σ7 : L2.St} {H7 : Hp} {s7 : Shared}, GI X S (ip ++ pinsAt fp s5.heap) ys' σ7 H7 s7 → GI X S ip ys' σ7 H7 s7 ∧ tn (i + 1) s7.heap ∧ ∀ b ∈ fp, H7 b = none := fun {ys' σ7 H7 s7} hh => by
          obtain ⟨a7, c7, r7, I7⟩ := hh
          have I7' : Inv X (((S, lstObj a7 c7) :: ip) ++ pinsAt fp s5.heap) σ7 H7 s7 := I7
          refine ⟨⟨a7, c7, r7, I7'.unpinned⟩, T.keep _ _ _ st5 fun b hb o e => (I7'.pin (b, o) (List.mem_append_right _ (List.mem_append_right _ (mem_pinsAt hb e)))).1, fun b hb => ?_⟩
          obtain ⟨o, e, d⟩ := T.obj _ _ st5 b hb
          exact (I7'.pin (b, o) (List.mem_append_right _ (List.mem_append_right _ (mem_pinsAt hb e)))).2.1
        refine hb.run A S (ip ++ pinsAt fp s5.heap) R n ys s₀ _ _ _ _ id id s6 σ6 H6 { D with nx := N, ct := N, bk := D.nx } gc' hn ⟨fun n' ys' s₀' s3 f hn' hs => ?_, fun n' s₀' y s3 hx => ee n' s₀' y s3 hx⟩ ⟨acc, cc, r, I6⟩ q6
        cases f with
        | next =>
          obtain ⟨σ7, H7, g7, n7⟩ := hs
          obtain ⟨g8, st8, fr8⟩ := back g7
          obtain ⟨m', hm, w7⟩ := hN ys' σ7 H7 n7
          exact seg_again rfl (ih m' hm (i + 1) n' ys' s₀' s3 σ7 H7 hn' w7 g8 st8 fr8)
        | cont =>
          obtain ⟨σ7, H7, g7, n7⟩ := hs
          obtain ⟨g8, st8, fr8⟩ := back g7
          obtain ⟨m', hm, w7⟩ := hN ys' σ7 H7 n7
          exact seg_again rfl (ih m' hm (i + 1) n' ys' s₀' s3 σ7 H7 hn' w7 g8 st8 fr8)
        | brk =>
          obtain ⟨σ7, H7, g7, q7⟩ := hs
          exact seg_leaf (.ok .next) (k.ok n' ys' s₀' s3 .next hn' ⟨σ7, H7, (back g7).1, q7⟩)
        | ret v =>
          obtain ⟨x7, σ7, H7, g7, r7, q7⟩ := hs
          exact seg_leaf (.ok (.ret v)) (k.ok n' ys' s₀' s3 (.ret v) hn' ⟨x7, σ7, H7, (back g7).1, r7, q7⟩)
  exact loop m0 0 n ys s₀ s2 σ H2 hn w0 ⟨acc, cc, r, I2⟩ st2 fun b hb => (f2 b hb).1
end
end Y
set_option autoImplicit false
/-! What is drawn: lots over n things, none within another, in order. -/
namespace KM
theorem sortN_mem {l : T} {x : Nat} : x ∈ sortN l ↔ x ∈ l := (sortN_perm l).mem_iff
theorem sortN_le (l : T) : (sortN l).Pairwise (· ≤ ·) := by
  have h := List.pairwise_mergeSort (le := fun (a b : Nat) => decide (a ≤ b)) (fun a b c h1 h2 => by simp at *; omega) (fun a b => by simp; omega) l
  exact h.imp fun h => by simpa using h
theorem sortN_nd {l : T} (h : l.Nodup) : Asc (sortN l) := by
  have nd : (sortN l).Nodup := (sortN_perm l).nodup_iff.mpr h
  have := List.Pairwise.and (sortN_le l) nd
  exact this.imp fun {a b} h => by omega
/-- the lots of a small family -/
structure GF (n : Nat) (ls : List T) : Prop where
  n1 : 1 ≤ n
  ne : ls ≠ []
  g : Good ls
  lne : ∀ l ∈ ls, l ≠ []
  lt : ∀ l ∈ ls, ∀ x ∈ l, x < n
theorem GF.up {n m : Nat} {ls : List T} (h : GF n ls) (hm : n ≤ m) : GF m ls := ⟨Nat.le_trans h.n1 hm, h.ne, h.g, h.lne, fun l hl x hx => Nat.lt_of_lt_of_le (h.lt l hl x hx) hm⟩
theorem Good.sub {ls ls' : List T} (h : Good ls) (s : ls'.Sublist ls) : Good ls' := ⟨fun l hl => h.asc l (s.subset hl), h.lt.sublist s, fun l hl m hm => h.anti l (s.subset hl) m (s.subset hm)⟩
theorem GF.sub {n : Nat} {ls ls' : List T} (h : GF n ls) (s : ls'.Sublist ls) (ne : ls' ≠ []) : GF n ls' := ⟨h.n1, ne, h.g.sub s, fun l hl => h.lne l (s.subset hl), fun l hl => h.lt l (s.subset hl)⟩
/-! ### moved by a permutation -/
def mv (names : T) (l : T) : T := sortN (l.map fun t => names.getD t 0)
theorem getD_inj {names : T} {n : Nat} (h : names.Perm (List.range n)) {a b : Nat} (ha : a < n) (hb : b < n) (e : names.getD a 0 = names.getD b 0) : a = b := by
  have hl : names.length = n := by rw [h.length_eq, List.length_range]
  have nd : names.Nodup := h.nodup_iff.mpr List.nodup_range
  have h1 : a < names.length := by omega
  have h2 : b < names.length := by omega
  simp only [List.getD, List.getElem?_eq_getElem h1, List.getElem?_eq_getElem h2, Option.getD_some] at e
  rcases Nat.lt_trichotomy a b with h | h | h
  · exact absurd e ((List.pairwise_iff_getElem.mp nd) a b h1 h2 h)
  · exact h
  · exact absurd e.symm ((List.pairwise_iff_getElem.mp nd) b a h2 h1 h)
theorem getD_lt {names : T} {n : Nat} (h : names.Perm (List.range n)) {a : Nat} (ha : a < n) : names.getD a 0 < n := by
  have hl : names.length = n := by rw [h.length_eq, List.length_range]
  have h1 : a < names.length := by omega
  simp only [List.getD, List.getElem?_eq_getElem h1, Option.getD_some]
  exact List.mem_range.mp (h.mem_iff.mp (List.getElem_mem h1))
theorem mem_mv {names l : T} {x : Nat} : x ∈ mv names l ↔ ∃ t ∈ l, names.getD t 0 = x := by
  unfold mv
  rw [sortN_mem, List.mem_map]
theorem mv_asc {names l : T} {n : Nat} (h : names.Perm (List.range n)) (a : Asc l) (hl : ∀ x ∈ l, x < n) : Asc (mv names l) := by
  refine sortN_nd (List.pairwise_map.mpr ?_)
  refine (List.Pairwise.and_mem.mp a).imp ?_
  rintro x y ⟨hx, hy, hxy⟩ e
  have := getD_inj h (hl x hx) (hl y hy) e
  omega
theorem mv_sub {names l m : T} {n : Nat} (h : names.Perm (List.range n)) (hl : ∀ x ∈ l, x < n) (hm : ∀ x ∈ m, x < n) (s : ∀ x ∈ mv names l, x ∈ mv names m) : ∀ x ∈ l, x ∈ m := fun x hx => by
  obtain ⟨t, ht, e⟩ := mem_mv.mp (s _ (mem_mv.mpr ⟨x, hx, rfl⟩))
  have := getD_inj h (hm t ht) (hl x hx) e
  rw [← this]; exact ht
theorem moved_gf {names : T} {n : Nat} {ls : List T} (h : names.Perm (List.range n)) (g : GF n ls) : GF n (srt (ls.map (mv names))) := by
  have inj : ∀ l ∈ ls, ∀ m ∈ ls, mv names l = mv names m → l = m := fun l hl m hm e => g.g.anti l hl m hm (mv_sub h (g.lt l hl) (g.lt m hm) (fun x hx => e ▸ hx))
  have nd : (ls.map (mv names)).Nodup := by
    refine List.pairwise_map.mpr ?_
    refine (List.Pairwise.and_mem.mp (nodup_of_lt g.g.lt)).imp ?_
    rintro a b ⟨ha, hb, hne⟩ e
    exact hne (inj a ha b hb e)
  have mem : ∀ x, x ∈ srt (ls.map (mv names)) ↔ ∃ l ∈ ls, mv names l = x := fun x => by rw [srt_mem, List.mem_map]
  refine ⟨g.n1, fun z => ?_, ⟨fun l hl => ?_, srt_lt nd, fun l hl m hm s => ?_⟩, fun l hl z => ?_, fun l hl x hx => ?_⟩
  · obtain ⟨l, hl⟩ := List.exists_mem_of_ne_nil _ g.ne
    have := (mem (mv names l)).mpr ⟨l, hl, rfl⟩
    rw [z] at this
    cases this
  · obtain ⟨k, hk, rfl⟩ := (mem l).mp hl
    exact mv_asc h (g.g.asc k hk) (g.lt k hk)
  · obtain ⟨k, hk, rfl⟩ := (mem l).mp hl
    obtain ⟨k', hk', rfl⟩ := (mem m).mp hm
    rw [g.g.anti k hk k' hk' (mv_sub h (g.lt k hk) (g.lt k' hk') s)]
  · obtain ⟨k, hk, rfl⟩ := (mem l).mp hl
    obtain ⟨x, hx⟩ := List.exists_mem_of_ne_nil _ (g.lne k hk)
    have : names.getD x 0 ∈ mv names k := mem_mv.mpr ⟨x, hx, rfl⟩
    rw [z] at this
    cases this
  · obtain ⟨k, hk, rfl⟩ := (mem l).mp hl
    obtain ⟨t, ht, rfl⟩ := mem_mv.mp hx
    exact getD_lt h (g.lt k hk t ht)
/-! ### the least of some lots -/
theorem leastL_mem_aux (lots : List T) : ∀ (r k : List T), k.Nodup → (∀ l ∈ r, l ∈ lots) →
    (r.foldl (leastL1 lots) k).Nodup ∧ ∀ x, x ∈ r.foldl (leastL1 lots) k ↔ x ∈ k ∨ (x ∈ r ∧ ∀ o ∈ lots, o ≠ x → ¬ ∀ y ∈ o, y ∈ x)
  | [], k, nd, _ => ⟨nd, fun x => by simp⟩
  | a :: r, k, nd, hr => by
    have hf : ∀ lot : T, (lots.filter fun o => !decide (o = lot) && inside o lot).length == 0 ↔ ∀ o ∈ lots, o ≠ lot → ¬ ∀ y ∈ o, y ∈ lot := fun lot => by
      rw [beq_iff_eq, List.length_eq_zero_iff, List.filter_eq_nil_iff]
      constructor
      · intro h o ho hne hs
        exact h o ho (by simp [hne, inside_iff.mpr hs])
      · intro h o ho hx
        simp only [Bool.and_eq_true, Bool.not_eq_true', decide_eq_false_iff_not] at hx
        exact h o ho hx.1 (inside_iff.mp hx.2)
    have hk : (leastL1 lots k a).Nodup ∧ ∀ x, x ∈ leastL1 lots k a ↔ x ∈ k ∨ (x = a ∧ ∀ o ∈ lots, o ≠ x → ¬ ∀ y ∈ o, y ∈ x) := by
      unfold leastL1
      split
      · rename_i h
        exact ⟨nd, fun x => ⟨.inl, fun z => z.elim id fun z => z.1 ▸ h⟩⟩
      · rename_i h
        split
        · rename_i h2
          have h2' := (hf a).mp h2
          refine ⟨List.pairwise_append.mpr ⟨nd, List.pairwise_singleton _ _, fun x hx y hy e => h (by simp at hy; rw [← hy, ← e]; exact hx)⟩, fun x => ?_⟩
          rw [List.mem_append, List.mem_singleton]
          exact ⟨fun z => z.imp id fun z => ⟨z, z ▸ h2'⟩, fun z => z.imp id fun z => z.1⟩
        · rename_i h2
          refine ⟨nd, fun x => ⟨.inl, fun z => z.elim id fun z => ?_⟩⟩
          exact absurd ((hf a).mpr (z.1 ▸ z.2)) h2
    obtain ⟨h1, h2⟩ := leastL_mem_aux lots r _ hk.1 (fun l hl => hr l (List.mem_cons_of_mem _ hl))
    refine ⟨h1, fun x => ?_⟩
    rw [List.foldl_cons, h2, hk.2, List.mem_cons]
    constructor
    · rintro ((h | ⟨rfl, h⟩) | ⟨h, h'⟩)
      · exact .inl h
      · exact .inr ⟨.inl rfl, h⟩
      · exact .inr ⟨.inr h, h'⟩
    · rintro (h | ⟨rfl | h, h'⟩)
      · exact .inl (.inl h)
      · exact .inl (.inr ⟨rfl, h'⟩)
      · exact .inr ⟨h, h'⟩
theorem leastL_mem {lots : List T} {x : T} : x ∈ leastL lots ↔ x ∈ lots ∧ ∀ o ∈ lots, o ≠ x → ¬ ∀ y ∈ o, y ∈ x := by
  unfold leastL
  rw [srt_mem, (leastL_mem_aux lots lots [] List.nodup_nil fun _ h => h).2]
  simp
theorem leastL_lt (lots : List T) : (leastL lots).Pairwise (· < ·) := srt_lt (leastL_mem_aux lots lots [] List.nodup_nil fun _ h => h).1
theorem least_ex {lots : List T} (ha : ∀ l ∈ lots, Asc l) : ∀ (k : Nat) (l : T), l ∈ lots → l.length = k → ∃ m ∈ leastL lots, ∀ y ∈ m, y ∈ l := by
  intro k
  induction k using Nat.strongRecOn with
  | ind k ih =>
    intro l hl hk
    by_cases h : ∀ o ∈ lots, o ≠ l → ¬ ∀ y ∈ o, y ∈ l
    · exact ⟨l, leastL_mem.mpr ⟨hl, h⟩, fun _ h => h⟩
    · obtain ⟨o, ho, hne, hs⟩ : ∃ o, o ∈ lots ∧ o ≠ l ∧ ∀ y ∈ o, y ∈ l := Classical.byContradiction fun z => h fun o ho hne hs => z ⟨o, ho, hne, hs⟩
      have hlt : o.length < l.length := by
        have e : o = l.filter (fun x => decide (x ∈ o)) := asc_ext (ha o ho) ((ha l hl).filter _) fun x => by
          rw [List.mem_filter, decide_eq_true_iff]
          exact ⟨fun hx => ⟨hs x hx, hx⟩, fun hx => hx.2⟩
        have h1 := List.length_filter_le (fun x => decide (x ∈ o)) l
        rw [← e] at h1
        rcases Nat.lt_or_eq_of_le h1 with h1 | h1
        · exact h1
        · exfalso
          apply hne
          have h2 := List.length_filter_eq_length_iff.mp (show (l.filter (fun x => decide (x ∈ o))).length = l.length by rw [← e]; exact h1)
          exact asc_ext (ha o ho) (ha l hl) fun x => ⟨hs x, fun hx => by simpa using h2 x hx⟩
      obtain ⟨m, hm, h1⟩ := ih o.length (hk ▸ hlt) o ho rfl
      exact ⟨m, hm, fun y hy => hs y (h1 y hy)⟩
theorem least_gf {n : Nat} {fs : List T} (n1 : 1 ≤ n) (ne : fs ≠ []) (ha : ∀ l ∈ fs, Asc l) (hn : ∀ l ∈ fs, l ≠ []) (hl : ∀ l ∈ fs, ∀ x ∈ l, x < n) : GF n (leastL fs) := by
  refine ⟨n1, fun z => ?_, ⟨fun l h => ha l (leastL_mem.mp h).1, leastL_lt fs, fun l h m h' s => ?_⟩, fun l h => hn l (leastL_mem.mp h).1, fun l h => hl l (leastL_mem.mp h).1⟩
  · obtain ⟨l, hl⟩ := List.exists_mem_of_ne_nil _ ne
    obtain ⟨m, hm, _⟩ := least_ex ha _ l hl rfl
    rw [z] at hm
    cases hm
  · by_cases e : l = m
    · exact e
    · exact absurd s ((leastL_mem.mp h').2 l (leastL_mem.mp h).1 e)
/-! ### all sets of one size -/
theorem sized_mem {n k : Nat} {s : T} : s ∈ sized n k ↔ Asc s ∧ (∀ x ∈ s, x < n) ∧ s.length = k := by
  unfold sized
  rw [srt_mem, List.mem_filter, subsets_mem, beq_iff_eq]
  exact and_assoc
theorem sub_eq {l m : T} (a : Asc l) (b : Asc m) (s : ∀ x ∈ l, x ∈ m) (e : m.length ≤ l.length) : l = m := by
  have h1 : l = m.filter (fun x => decide (x ∈ l)) := asc_ext a (b.filter _) fun x => by
    rw [List.mem_filter, decide_eq_true_iff]
    exact ⟨fun hx => ⟨s x hx, hx⟩, fun hx => hx.2⟩
  have h2 := List.length_filter_le (fun x => decide (x ∈ l)) m
  rw [← h1] at h2
  have h3 := List.length_filter_eq_length_iff.mp (show (m.filter (fun x => decide (x ∈ l))).length = m.length by rw [← h1]; omega)
  exact asc_ext a b fun x => ⟨s x, fun hx => by simpa using h3 x hx⟩
theorem sized_gf {n k : Nat} (h1 : 1 ≤ k) (h2 : k ≤ n) : GF n (sized n k) := by
  refine ⟨by omega, fun z => ?_, ⟨fun l h => (sized_mem.mp h).1, srt_lt ((subsets_nodup n).sublist List.filter_sublist), fun l h m h' s => ?_⟩, fun l h z => ?_, fun l h => (sized_mem.mp h).2.1⟩
  · have : List.range k ∈ sized n k := sized_mem.mpr ⟨range_asc k, fun x hx => by have := List.mem_range.mp hx; omega, List.length_range⟩
    rw [z] at this
    cases this
  · exact sub_eq (sized_mem.mp h).1 (sized_mem.mp h').1 s (by rw [(sized_mem.mp h).2.2, (sized_mem.mp h').2.2]; exact Nat.le_refl _)
  · have := (sized_mem.mp h).2.2
    rw [z] at this
    simp at this
    omega
end KM
set_option autoImplicit false
/-! The sets that meet all lots, the least of them: the step by step walk over masks makes just them. -/
namespace KM
/-- m meets all of L -/
def TrM (L : List T) (m : Nat) : Prop := ∀ l ∈ L, ∃ x ∈ l, m.testBit x = true
/-- .. and each of its things has a lot of its own -/
def MinM (L : List T) (m : Nat) : Prop := TrM L m ∧ ∀ e, m.testBit e = true → ∃ l ∈ L, ∀ x ∈ l, m.testBit x = true → x = e
theorem TrM.up {L : List T} {m k : Nat} (h : TrM L m) (s : Sb m k) : TrM L k := fun l hl => let ⟨x, h1, h2⟩ := h l hl; ⟨x, h1, s x h2⟩
/-- two of them, one within the other -/
theorem MinM.eq {L : List T} {m k : Nat} (h : TrM L m) (g : MinM L k) (s : Sb m k) : m = k := by
  refine Sb.antisymm s fun e he => ?_
  obtain ⟨l, hl, hp⟩ := g.2 e he
  obtain ⟨x, h1, h2⟩ := h l hl
  rw [← hp x h1 (s x h2)]
  exact h2
theorem bit_pow {e x : Nat} : (2 ^ e).testBit x = decide (e = x) := Nat.testBit_two_pow
/-- m without e -/
def wo (m e : Nat) : Nat := m ^^^ (m &&& 2 ^ e)
theorem wo_bit {m e x : Nat} : (wo m e).testBit x = true ↔ m.testBit x = true ∧ x ≠ e := by
  unfold wo
  rw [Nat.testBit_xor, Nat.testBit_and, bit_pow]
  by_cases h : e = x
  · subst h
    cases m.testBit e <;> simp
  · have h' : x ≠ e := fun z => h z.symm
    cases m.testBit x <;> simp [h, h']
theorem wo_lt {m e : Nat} (h : m.testBit e = true) : wo m e < m := by
  have s : Sb (wo m e) m := fun x hx => (wo_bit.mp hx).1
  rcases Nat.lt_or_eq_of_le s.le with z | z
  · exact z
  · rw [← z] at h
    exact absurd rfl (wo_bit.mp h).2
/-- each that meets all holds a least one -/
theorem min_in {L : List T} : ∀ (m : Nat), TrM L m → ∃ k, MinM L k ∧ Sb k m := by
  intro m
  induction m using Nat.strongRecOn with
  | ind m ih =>
    intro h
    by_cases hm : ∀ e, m.testBit e = true → ∃ l ∈ L, ∀ x ∈ l, m.testBit x = true → x = e
    · exact ⟨m, ⟨h, hm⟩, Sb.refl m⟩
    · obtain ⟨e, he, hne⟩ : ∃ e, m.testBit e = true ∧ ¬ ∃ l ∈ L, ∀ x ∈ l, m.testBit x = true → x = e := Classical.byContradiction fun z => hm fun e he => Classical.byContradiction fun z2 => z ⟨e, he, z2⟩
      have ht : TrM L (wo m e) := fun l hl => by
        obtain ⟨x, h1, h2, h3⟩ : ∃ x ∈ l, m.testBit x = true ∧ x ≠ e := Classical.byContradiction fun z => hne ⟨l, hl, fun x hx hb => Classical.byContradiction fun z2 => z ⟨x, hx, hb, z2⟩⟩
        exact ⟨x, h1, wo_bit.mpr ⟨h2, h3⟩⟩
      obtain ⟨k, hk, hs⟩ := ih (wo m e) (wo_lt he) ht
      exact ⟨k, hk, hs.trans fun x hx => (wo_bit.mp hx).1⟩
theorem and_ne {a : T} (ha : Asc a) {m : Nat} : (m &&& maskOf a != 0) = true ↔ ∃ x ∈ a, m.testBit x = true := by
  rw [bne_iff_ne, ne_eq, and_zero_iff]
  constructor
  · intro h
    refine Classical.byContradiction fun z => h fun i hi => ?_
    rw [mask_bit ha]
    exact decide_eq_false fun hm => z ⟨i, hm, hi⟩
  · rintro ⟨x, h1, h2⟩ h
    have := h x h2
    rw [mask_bit ha, decide_eq_false_iff_not] at this
    exact this h1
theorem and_pow {a : T} (ha : Asc a) {m e : Nat} : (m &&& maskOf a == 2 ^ e) = true ↔ ∀ x, (m.testBit x = true ∧ x ∈ a) ↔ x = e := by
  rw [beq_iff_eq]
  constructor
  · intro h x
    have := congrArg (fun n => n.testBit x) h
    simp only [Nat.testBit_and, mask_bit ha, bit_pow] at this
    rw [Bool.eq_iff_iff] at this
    simp at this
    rw [this]
    exact ⟨fun h => h.symm, fun h => h.symm⟩
  · intro h
    apply Nat.eq_of_testBit_eq
    intro x
    rw [Nat.testBit_and, mask_bit ha, bit_pow, Bool.eq_iff_iff]
    simp
    rw [h x]
    exact ⟨fun h => h.symm, fun h => h.symm⟩
theorem or_bit {m e x : Nat} : (m ||| 2 ^ e).testBit x = true ↔ m.testBit x = true ∨ x = e := by
  rw [Nat.testBit_or, bit_pow, Bool.or_eq_true, decide_eq_true_iff]
  exact or_congr Iff.rfl ⟨fun h => h.symm, fun h => h.symm⟩
theorem not_sb {a b : Nat} : (a &&& b != a) = true ↔ ¬ Sb a b := by
  rw [bne_iff_ne, ne_eq, and_left_iff]
/-! the step, part by part -/
def okWide (met : List Nat) (mask e one : Nat) : Bool := (met.filter (fun t => t &&& mask == 2 ^ e)).all (fun two => two &&& (one ||| 2 ^ e) != two)
theorem grown_eq (met : List Nat) (mask : Nat) (missed : List Nat) (e : Nat) : ∀ (g : List Nat), grownAt met missed mask g e = g ++ (missed.filter (okWide met mask e)).map (fun one => one ||| 2 ^ e) := by
  unfold grownAt
  induction missed with
  | nil => intro g; simp
  | cons a r ih =>
    intro g
    rw [List.foldl_cons, ih]
    by_cases h : ((met.filter (fun t => t &&& mask == 2 ^ e)).all (fun two => two &&& (a ||| 2 ^ e) != two)) = true
    · rw [if_pos h, List.filter_cons_of_pos (show okWide met mask e a = true from h)]
      simp
    · rw [if_neg h, List.filter_cons_of_neg (show ¬ okWide met mask e a = true from h)]
theorem nd_flat {f : Nat → List Nat} : ∀ (a : T), a.Pairwise (fun e e' => ∀ x ∈ f e, x ∉ f e') → (∀ e ∈ a, (f e).Nodup) → (a.flatMap f).Nodup
  | [], _, _ => by simp
  | e :: a, h, k => by
    obtain ⟨h1, h2⟩ := List.pairwise_cons.mp h
    rw [List.flatMap_cons]
    refine List.pairwise_append.mpr ⟨k e List.mem_cons_self, nd_flat a h2 fun e he => k e (List.mem_cons_of_mem _ he), fun x hx y hy z => ?_⟩
    obtain ⟨e', he', hy'⟩ := List.mem_flatMap.mp hy
    exact h1 e' he' x hx (z ▸ hy')
theorem grown_all (met : List Nat) (mask : Nat) (missed : List Nat) : ∀ (a : T) (g : List Nat), a.foldl (grownAt met missed mask) g = g ++ a.flatMap (fun e => (missed.filter (okWide met mask e)).map (fun one => one ||| 2 ^ e))
  | [], g => by simp
  | e :: a, g => by
    rw [List.foldl_cons, grown_all met mask missed a, grown_eq]
    simp
structure Kp (L : List T) (k : List Nat) : Prop where
  nd : k.Nodup
  mem : ∀ m, m ∈ k ↔ MinM L m
theorem step_kp {L : List T} {k : List Nat} {a : T} (h : Kp L k) (ha : Asc a) : Kp (L ++ [a]) (blkStep k a) := by
  have e0 : blkStep k a = k.filter (fun one => one &&& maskOf a != 0) ++ a.flatMap (fun e => ((k.filter (fun one => one &&& maskOf a == 0)).filter (okWide (k.filter (fun one => one &&& maskOf a != 0)) (maskOf a) e)).map (fun one => one ||| 2 ^ e)) := by
    unfold blkStep
    rw [grown_all]
    simp
  have hmet : ∀ m, m ∈ k.filter (fun one => one &&& maskOf a != 0) ↔ MinM L m ∧ ∃ x ∈ a, m.testBit x = true := fun m => by rw [List.mem_filter, h.mem, and_ne ha]
  have hmis : ∀ m, m ∈ k.filter (fun one => one &&& maskOf a == 0) ↔ MinM L m ∧ ∀ x ∈ a, m.testBit x = false := fun m => by
    rw [List.mem_filter, h.mem, beq_iff_eq, and_zero_iff]
    refine and_congr Iff.rfl ⟨fun z x hx => ?_, fun z i hi => ?_⟩
    · cases hb : m.testBit x with
      | false => rfl
      | true =>
        have := z x hb
        rw [mask_bit ha, decide_eq_false_iff_not] at this
        exact absurd hx this
    · rw [mask_bit ha, decide_eq_false_iff_not]
      intro hx
      rw [z i hx] at hi
      cases hi
  have hok : ∀ e one, okWide (k.filter (fun one => one &&& maskOf a != 0)) (maskOf a) e one = true ↔ ∀ two, MinM L two → (∀ x, (two.testBit x = true ∧ x ∈ a) ↔ x = e) → ¬ Sb two (one ||| 2 ^ e) := fun e one => by
    unfold okWide
    rw [List.all_eq_true]
    constructor
    · intro z two h1 h2
      refine not_sb.mp (z two (List.mem_filter.mpr ⟨(hmet two).mpr ⟨h1, e, ((h2 e).mpr rfl).2, ((h2 e).mpr rfl).1⟩, (and_pow ha).mpr h2⟩))
    · intro z two ht
      obtain ⟨h1, h2⟩ := List.mem_filter.mp ht
      exact not_sb.mpr (z two ((hmet two).mp h1).1 ((and_pow ha).mp h2))
  rw [e0]
  have one_eq : ∀ {e one m}, e ∈ a → (∀ x ∈ a, one.testBit x = false) → one ||| 2 ^ e = m → (∀ x, (m.testBit x = true ∧ x ∈ a) ↔ x = e) ∧ one = wo m e := fun {e one m} he hmiss hm => by
    subst hm
    refine ⟨fun x => ?_, ?_⟩
    · rw [or_bit]
      constructor
      · rintro ⟨h1 | h1, h2⟩
        · rw [hmiss x h2] at h1; cases h1
        · exact h1
      · rintro rfl
        exact ⟨.inr rfl, he⟩
    · refine Sb.antisymm (fun x hx => wo_bit.mpr ⟨or_bit.mpr (.inl hx), fun z => by rw [z, hmiss e he] at hx; cases hx⟩) fun x hx => ?_
      obtain ⟨h1, h2⟩ := wo_bit.mp hx
      exact (or_bit.mp h1).resolve_right h2
  refine ⟨?_, fun m => ?_⟩
  · refine List.pairwise_append.mpr ⟨h.nd.sublist List.filter_sublist, ?_, fun x hx y hy e => ?_⟩
    · refine nd_flat a ((List.Pairwise.and_mem.mp ha).imp ?_) fun e he => ?_
      · rintro e e' ⟨he, he', hlt⟩ x hx hx'
        obtain ⟨o, ho, h1⟩ := List.mem_map.mp hx
        obtain ⟨o', ho', h1'⟩ := List.mem_map.mp hx'
        have q := (one_eq he ((hmis o).mp (List.mem_filter.mp ho).1).2 h1).1
        have q' := (one_eq he' ((hmis o').mp (List.mem_filter.mp ho').1).2 h1').1
        have := (q' e).mp ((q e).mpr rfl)
        omega
      · refine List.pairwise_map.mpr ?_
        refine (List.Pairwise.and_mem.mp ((h.nd.sublist List.filter_sublist).sublist List.filter_sublist)).imp ?_
        rintro x y ⟨hx, hy, hne⟩ z
        have hx' := ((hmis x).mp (List.mem_filter.mp hx).1).2
        have hy' := ((hmis y).mp (List.mem_filter.mp hy).1).2
        exact hne ((one_eq he hx' rfl).2.trans (z ▸ (one_eq he hy' rfl).2.symm))
    · subst e
      obtain ⟨e, he, hx'⟩ := List.mem_flatMap.mp hy
      obtain ⟨o, ho, h1⟩ := List.mem_map.mp hx'
      obtain ⟨g1, g2⟩ := (hmis o).mp (List.mem_filter.mp ho).1
      have := MinM.eq g1.1 ((hmet x).mp hx).1 (fun i hi => h1 ▸ or_bit.mpr (.inl hi))
      have hb : x.testBit e = true := h1 ▸ or_bit.mpr (.inr rfl)
      rw [← this, g2 e he] at hb
      cases hb
  · rw [List.mem_append, hmet, List.mem_flatMap]
    constructor
    · rintro (⟨g1, x, hx, hb⟩ | ⟨e, he, hm⟩)
      · refine ⟨fun l hl => ?_, fun e he => ?_⟩
        · rcases List.mem_append.mp hl with hl | hl
          · exact g1.1 l hl
          · simp at hl
            rw [hl]
            exact ⟨x, hx, hb⟩
        · obtain ⟨l, hl, hp⟩ := g1.2 e he
          exact ⟨l, List.mem_append_left _ hl, hp⟩
      · obtain ⟨o, ho, h1⟩ := List.mem_map.mp hm
        obtain ⟨ho1, ho2⟩ := List.mem_filter.mp ho
        obtain ⟨g1, g2⟩ := (hmis o).mp ho1
        have cond := (hok e o).mp ho2
        obtain ⟨q1, q2⟩ := one_eq he g2 h1
        have so : Sb o m := fun i hi => h1 ▸ or_bit.mpr (.inl hi)
        refine ⟨fun l hl => ?_, fun f hf => ?_⟩
        · rcases List.mem_append.mp hl with hl | hl
          · exact g1.1.up so l hl
          · simp at hl
            rw [hl]
            exact ⟨e, he, ((q1 e).mpr rfl).1⟩
        · by_cases hfe : f = e
          · subst hfe
            exact ⟨a, by simp, fun x hx hb => (q1 x).mp ⟨hb, hx⟩⟩
          · refine Classical.byContradiction fun z => ?_
            have ht : TrM L (wo m f) := fun l hl => by
              obtain ⟨x, hx, hb, hne⟩ : ∃ x ∈ l, m.testBit x = true ∧ x ≠ f := Classical.byContradiction fun z2 => z ⟨l, List.mem_append_left _ hl, fun x hx hb => Classical.byContradiction fun z3 => z2 ⟨x, hx, hb, z3⟩⟩
              exact ⟨x, hx, wo_bit.mpr ⟨hb, hne⟩⟩
            obtain ⟨two, t1, t2⟩ := min_in (wo m f) ht
            have sm : Sb two m := fun i hi => (wo_bit.mp (t2 i hi)).1
            have het : two.testBit e = true := by
              cases hb : two.testBit e with
              | true => rfl
              | false =>
                exfalso
                have s1 : Sb two o := fun i hi => by
                  rw [q2]
                  exact wo_bit.mpr ⟨sm i hi, fun w => by rw [w, hb] at hi; cases hi⟩
                have e1 := MinM.eq t1.1 g1 s1
                have hfo : o.testBit f = true := by
                  rw [q2]
                  exact wo_bit.mpr ⟨hf, hfe⟩
                rw [← e1] at hfo
                exact (wo_bit.mp (t2 f hfo)).2 rfl
            refine cond two t1 (fun x => ⟨fun hx => (q1 x).mp ⟨sm x hx.1, hx.2⟩, fun hx => hx ▸ ⟨het, he⟩⟩) ?_
            rw [h1]
            exact sm
    · intro hm
      have hta : ∃ x ∈ a, m.testBit x = true := hm.1 a (by simp)
      have hTL : TrM L m := fun l hl => hm.1 l (List.mem_append_left _ hl)
      by_cases hL : MinM L m
      · exact .inl ⟨hL, hta⟩
      · refine .inr ?_
        obtain ⟨e, he, hne⟩ : ∃ e, m.testBit e = true ∧ ¬ ∃ l ∈ L, ∀ x ∈ l, m.testBit x = true → x = e := Classical.byContradiction fun z => hL ⟨hTL, fun e he => Classical.byContradiction fun z2 => z ⟨e, he, z2⟩⟩
        obtain ⟨l, hl, hp⟩ := hm.2 e he
        have hla : l = a := by
          rcases List.mem_append.mp hl with hl | hl
          · exact absurd ⟨l, hl, hp⟩ hne
          · simpa using hl
        subst hla
        have hel : e ∈ l := by
          obtain ⟨x, hx, hb⟩ := hta
          rw [← hp x hx hb]
          exact hx
        have q1 : ∀ x, (m.testBit x = true ∧ x ∈ l) ↔ x = e := fun x => ⟨fun h => hp x h.2 h.1, fun h => h ▸ ⟨he, hel⟩⟩
        have mis : ∀ x ∈ l, (wo m e).testBit x = false := fun x hx => by
          cases hb : (wo m e).testBit x with
          | false => rfl
          | true =>
            obtain ⟨h1, h2⟩ := wo_bit.mp hb
            exact absurd (hp x hx h1) h2
        have hw : wo m e ||| 2 ^ e = m := by
          refine Sb.antisymm (fun x hx => ?_) fun x hx => ?_
          · rcases or_bit.mp hx with h | h
            · exact (wo_bit.mp h).1
            · rw [h]; exact he
          · by_cases hxe : x = e
            · exact or_bit.mpr (.inr hxe)
            · exact or_bit.mpr (.inl (wo_bit.mpr ⟨hx, hxe⟩))
        have g1 : MinM L (wo m e) := by
          refine ⟨fun k hk => ?_, fun f hf => ?_⟩
          · obtain ⟨x, hx, hb, hxe⟩ : ∃ x ∈ k, m.testBit x = true ∧ x ≠ e := Classical.byContradiction fun z => hne ⟨k, hk, fun x hx hb => Classical.byContradiction fun z2 => z ⟨x, hx, hb, z2⟩⟩
            exact ⟨x, hx, wo_bit.mpr ⟨hb, hxe⟩⟩
          · obtain ⟨hf1, hf2⟩ := wo_bit.mp hf
            obtain ⟨k, hk, hkp⟩ := hm.2 f hf1
            rcases List.mem_append.mp hk with hk | hk
            · exact ⟨k, hk, fun x hx hb => hkp x hx (wo_bit.mp hb).1⟩
            · have : k = l := by simpa using hk
              subst this
              exact absurd (hkp e hel he).symm hf2
        refine ⟨e, hel, List.mem_map.mpr ⟨wo m e, List.mem_filter.mpr ⟨(hmis _).mpr ⟨g1, mis⟩, (hok e _).mpr fun two t1 t2 ts => ?_⟩, hw⟩⟩
        rw [hw] at ts
        by_cases hmt : Sb m two
        · exact hL (Sb.antisymm ts hmt ▸ t1)
        · obtain ⟨f, hf1, hf2⟩ : ∃ f, m.testBit f = true ∧ ¬ two.testBit f = true := Classical.byContradiction fun z => hmt fun f hf => Classical.byContradiction fun z2 => z ⟨f, hf, z2⟩
          obtain ⟨k, hk, hkp⟩ := hm.2 f hf1
          rcases List.mem_append.mp hk with hk | hk
          · obtain ⟨x, hx, hb⟩ := t1.1 k hk
            exact hf2 (hkp x hx (ts x hb) ▸ hb)
          · have : k = l := by simpa using hk
            subst this
            have hef := hkp e hel he
            exact hf2 (hef ▸ ((t2 e).mpr rfl).1)
theorem blk_kp : ∀ (r L : List T) (k : List Nat), Kp L k → (∀ l ∈ r, Asc l) → Kp (L ++ r) (r.foldl blkStep k)
  | [], L, k, h, _ => by simpa using h
  | a :: r, L, k, h, ha => by
    have := blk_kp r (L ++ [a]) (blkStep k a) (step_kp h (ha a List.mem_cons_self)) fun l hl => ha l (List.mem_cons_of_mem _ hl)
    rw [List.append_assoc] at this
    exact this
theorem blk_spec {L : List T} (ha : ∀ l ∈ L, Asc l) : Kp L (L.foldl blkStep [0]) := by
  have h0 : Kp [] [0] := ⟨by simp, fun m => by
    rw [List.mem_singleton]
    constructor
    · rintro rfl
      exact And.intro (fun l hl => absurd hl (by simp)) (fun e he => absurd he (by simp))
    · intro h
      apply Nat.eq_of_testBit_eq
      intro i
      cases hb : m.testBit i with
      | false => simp
      | true =>
        obtain ⟨l, hl, _⟩ := h.2 i hb
        cases hl⟩
  have := blk_kp L [] [0] h0 ha
  simpa using this
end KM
set_option autoImplicit false
/-! The blocker: two ways of making it agree; a set or its rest; the quiet sets. -/
namespace KM
theorem mem_blockerLots {L : List T} (ha : ∀ l ∈ L, Asc l) {s : T} : s ∈ blockerLots L ↔ Asc s ∧ MinM L (maskOf s) := by
  unfold blockerLots lotsOfMasks
  rw [srt_mem, List.mem_map]
  constructor
  · rintro ⟨m, hm, rfl⟩
    refine ⟨things_asc m, ?_⟩
    rw [mask_things]
    exact ((blk_spec ha).mem m).mp hm
  · rintro ⟨h1, h2⟩
    exact ⟨maskOf s, ((blk_spec ha).mem _).mpr h2, things_mask h1⟩
theorem blockerLots_lt {L : List T} (ha : ∀ l ∈ L, Asc l) : (blockerLots L).Pairwise (· < ·) := by
  refine srt_lt (List.pairwise_map.mpr ?_)
  refine (blk_spec ha).nd.imp ?_
  intro a b hne e
  apply hne
  rw [← mask_things a, ← mask_things b, e]
theorem tr_meets {L : List T} {s : T} (a : Asc s) : TrM L (maskOf s) ↔ meets L s = true := by
  rw [meets_iff]
  unfold TrM
  constructor
  · intro h l hl
    obtain ⟨x, h1, h2⟩ := h l hl
    exact ⟨x, h1, (mask_bit_iff a).mp h2⟩
  · intro h l hl
    obtain ⟨x, h1, h2⟩ := h l hl
    exact ⟨x, h1, (mask_bit_iff a).mpr h2⟩
theorem min_blk {L : List T} {s : T} (a : Asc s) : MinM L (maskOf s) ↔ isBlk L s = true := by
  unfold isBlk MinM
  rw [Bool.and_eq_true, tr_meets a]
  refine and_congr Iff.rfl ?_
  unfold spare
  rw [beq_iff_eq, List.length_eq_zero_iff, List.filter_eq_nil_iff]
  constructor
  · intro h t ht hm
    obtain ⟨l, hl, hp⟩ := h t ((mask_bit_iff a).mpr ht)
    obtain ⟨x, hx, hx2⟩ := meets_iff.mp hm l hl
    obtain ⟨h1, h2⟩ := List.mem_filter.mp hx2
    have := hp x hx ((mask_bit_iff a).mpr h1)
    simp [this] at h2
  · intro h e he
    have he' := (mask_bit_iff a).mp he
    refine Classical.byContradiction fun z => h e he' (meets_iff.mpr fun l hl => ?_)
    obtain ⟨x, hx, hb, hne⟩ : ∃ x ∈ l, (maskOf s).testBit x = true ∧ x ≠ e := by
      refine Classical.byContradiction fun z2 => ?_
      exact z ⟨l, hl, fun x hx hb => Classical.byContradiction fun z3 => z2 ⟨x, hx, hb, z3⟩⟩
    exact ⟨x, hx, List.mem_filter.mpr ⟨(mask_bit_iff a).mp hb, by simpa using hne⟩⟩
theorem min_lt {L : List T} {n m : Nat} (hl : ∀ l ∈ L, ∀ x ∈ l, x < n) (h : MinM L m) {e : Nat} (he : m.testBit e = true) : e < n := by
  obtain ⟨l, h1, hp⟩ := h.2 e he
  obtain ⟨x, hx, hb⟩ := h.1 l h1
  rw [← hp x hx hb]
  exact hl l h1 x hx
theorem blocker_eq {L : List T} {n : Nat} (ha : ∀ l ∈ L, Asc l) (hl : ∀ l ∈ L, ∀ x ∈ l, x < n) : blocker n L = blockerLots L := by
  refine ltT_ext (srt_lt ((subsets_nodup n).sublist List.filter_sublist)) (blockerLots_lt ha) fun s => ?_
  unfold blocker
  rw [srt_mem, List.mem_filter, subsets_mem, mem_blockerLots ha]
  constructor
  · rintro ⟨⟨h1, _⟩, h3⟩
    exact ⟨h1, (min_blk h1).mpr h3⟩
  · rintro ⟨h1, h2⟩
    exact ⟨⟨h1, fun x hx => min_lt hl h2 ((mask_bit_iff h1).mpr hx)⟩, (min_blk h1).mp h2⟩
theorem blocker_gf {L : List T} {n : Nat} (g : GF n L) : GF n (blockerLots L) := by
  have ha := g.g.asc
  have mem := fun s => mem_blockerLots (L := L) ha (s := s)
  refine ⟨g.n1, fun z => ?_, ⟨fun l h => ((mem l).mp h).1, blockerLots_lt ha, fun l h m h' s => ?_⟩, fun l h z => ?_, fun l h x hx => ?_⟩
  · have ht : TrM L (maskOf (List.range n)) := fun l hl => by
      obtain ⟨x, hx⟩ := List.exists_mem_of_ne_nil _ (g.lne l hl)
      exact ⟨x, hx, (mask_bit_iff (range_asc n)).mpr (List.mem_range.mpr (g.lt l hl x hx))⟩
    obtain ⟨k, hk, _⟩ := min_in _ ht
    have : thingsOf k ∈ blockerLots L := (mem _).mpr ⟨things_asc k, by rw [mask_things]; exact hk⟩
    rw [z] at this
    cases this
  · have a := ((mem l).mp h)
    have b := ((mem m).mp h')
    exact mask_inj a.1 b.1 (MinM.eq a.2.1 b.2 fun i hi => (mask_bit_iff b.1).mpr (s i ((mask_bit_iff a.1).mp hi)))
  · obtain ⟨k, hk⟩ := List.exists_mem_of_ne_nil _ g.ne
    obtain ⟨x, _, hb⟩ := ((mem l).mp h).2.1 k hk
    rw [z] at hb
    simp [maskOf] at hb
  · exact min_lt g.lt ((mem l).mp h).2 ((mask_bit_iff ((mem l).mp h).1).mpr hx)
/-! a set or its rest -/
theorem set_or_rest {L : List T} {n : Nat} (g : GF n L) {s : T} (hs : ∀ x ∈ s, x < n) : holds (blockerLots L) (rest n s) = !holds L s := by
  have ha := g.g.asc
  rw [Bool.eq_iff_iff, holds_iff, Bool.not_eq_true', ← Bool.not_eq_true, holds_iff]
  constructor
  · rintro ⟨b, hb, h1⟩ ⟨l, hl, h2⟩
    obtain ⟨hb1, hb2⟩ := (mem_blockerLots ha).mp hb
    obtain ⟨x, hx, hbit⟩ := hb2.1 l hl
    exact (mem_rest.mp (h1 x ((mask_bit_iff hb1).mp hbit))).2 (h2 x hx)
  · intro h
    have ht : TrM L (maskOf (rest n s)) := fun l hl => by
      obtain ⟨x, hx, hns⟩ : ∃ x ∈ l, x ∉ s := Classical.byContradiction fun z => h ⟨l, hl, fun x hx => Classical.byContradiction fun z2 => z ⟨x, hx, z2⟩⟩
      exact ⟨x, hx, (mask_bit_iff (rest_asc n s)).mpr (mem_rest.mpr ⟨g.lt l hl x hx, hns⟩)⟩
    obtain ⟨k, hk, hsub⟩ := min_in _ ht
    refine ⟨thingsOf k, (mem_blockerLots ha).mpr ⟨things_asc k, by rw [mask_things]; exact hk⟩, fun x hx => ?_⟩
    exact (mask_bit_iff (rest_asc n s)).mp (hsub x (mem_things.mp hx))
/-! the quiet sets -/
def quiet (n : Nat) (L : List T) : List T := srt ((blockerLots L).map (rest n))
theorem mem_quiet {L : List T} {n : Nat} {s : T} : s ∈ quiet n L ↔ ∃ b ∈ blockerLots L, rest n b = s := by
  unfold quiet
  rw [srt_mem, List.mem_map]
theorem quiet_within {L : List T} {n : Nat} (g : GF n L) {s : T} (hs : ∀ x ∈ s, x < n) : within s (quiet n L) = !holds L s := by
  rw [← set_or_rest g hs, Bool.eq_iff_iff, within_iff, holds_iff]
  constructor
  · rintro ⟨o, ho, h1⟩
    obtain ⟨b, hb, rfl⟩ := mem_quiet.mp ho
    exact ⟨b, hb, fun x hx => mem_rest.mpr ⟨(blocker_gf g).lt b hb x hx, fun hxs => (mem_rest.mp (h1 x hxs)).2 hx⟩⟩
  · rintro ⟨b, hb, h1⟩
    exact ⟨rest n b, mem_quiet.mpr ⟨b, hb, rfl⟩, fun x hx => mem_rest.mpr ⟨hs x hx, fun hxb => (mem_rest.mp (h1 x hxb)).2 hx⟩⟩
theorem quiet_ne {L : List T} {n : Nat} (g : GF n L) : ∀ s ∈ quiet n L, True := fun _ _ => trivial
/-! what the program asks: masks -/
theorem mask_holds {L : List T} (ha : ∀ l ∈ L, Asc l) {f : T} (nd : f.Nodup) : (L.any fun l => maskOf l &&& maskOf (sortN f) == maskOf l) = holds L f := by
  unfold holds
  rw [Bool.eq_iff_iff, List.any_eq_true, List.any_eq_true]
  refine exists_congr fun l => and_congr_right fun hl => ?_
  rw [beq_iff_eq, and_left_iff, inside_iff]
  constructor
  · intro h x hx
    exact sortN_mem.mp ((mask_bit_iff (sortN_nd nd)).mp (h x ((mask_bit_iff (ha l hl)).mpr hx)))
  · intro h i hi
    exact (mask_bit_iff (sortN_nd nd)).mpr (sortN_mem.mpr (h i ((mask_bit_iff (ha l hl)).mp hi)))
theorem holds_congr {L : List T} {f g : T} (h : ∀ x, x ∈ f ↔ x ∈ g) : holds L f = holds L g := by
  rw [Bool.eq_iff_iff, holds_iff, holds_iff]
  simp only [h]
/-! sizes -/
theorem nodup_len {k : List Nat} {b : Nat} (nd : k.Nodup) (h : ∀ m ∈ k, m < b) : k.length ≤ b := by
  have e : sortN k = (List.range b).filter (fun x => decide (x ∈ k)) := asc_ext (sortN_nd nd) ((range_asc b).filter _) fun x => by
    rw [sortN_mem, List.mem_filter, List.mem_range, decide_eq_true_iff]
    exact ⟨fun hx => ⟨h x hx, hx⟩, fun hx => hx.2⟩
  have h1 := List.length_filter_le (fun x => decide (x ∈ k)) (List.range b)
  rw [← e, List.length_range, (sortN_perm k).length_eq] at h1
  exact h1
theorem kept_len {L : List T} {n : Nat} (ha : ∀ l ∈ L, Asc l) (hl : ∀ l ∈ L, ∀ x ∈ l, x < n) (i : Nat) : ((L.take i).foldl blkStep [0]).length ≤ 2 ^ n := by
  have hs : ∀ l ∈ L.take i, l ∈ L := fun l h => (List.take_sublist i L).subset h
  have kp := blk_spec (L := L.take i) fun l h => ha l (hs l h)
  refine nodup_len kp.nd fun m hm => ?_
  refine Nat.lt_pow_two_of_testBit m fun j hj => ?_
  cases hb : m.testBit j with
  | false => rfl
  | true =>
    have := min_lt (n := n) (fun l h => hl l (hs l h)) ((kp.mem m).mp hm) hb
    omega
theorem blockerLots_len (L : List T) : (blockerLots L).length = (L.foldl blkStep [0]).length := by
  unfold blockerLots lotsOfMasks
  rw [srt_len, List.length_map]
theorem gf_len {L : List T} {n : Nat} (g : GF n L) : L.length ≤ 2 ^ n := by
  have h : (L.map maskOf).length ≤ 2 ^ n := nodup_len (List.pairwise_map.mpr ((List.Pairwise.and_mem.mp (nodup_of_lt g.g.lt)).imp fun {a b} h e => h.2.2 (mask_inj (g.g.asc a h.1) (g.g.asc b h.2.1) e))) fun m hm => by
    obtain ⟨l, hl, rfl⟩ := List.mem_map.mp hm
    refine Nat.lt_pow_two_of_testBit _ fun j hj => ?_
    rw [mask_bit (g.g.asc l hl), decide_eq_false_iff_not]
    intro h
    have := g.lt l hl j h
    omega
  rwa [List.length_map] at h
end KM
set_option autoImplicit false
/-! The written families. -/
namespace KM
theorem gf_srt {n : Nat} {X : List T} (n1 : 1 ≤ n) (ne : X ≠ []) (nd : X.Nodup) (ha : ∀ l ∈ X, Asc l) (hn : ∀ l ∈ X, l ≠ []) (hl : ∀ l ∈ X, ∀ x ∈ l, x < n) (an : ∀ l ∈ X, ∀ m ∈ X, (∀ x ∈ l, x ∈ m) → l = m) : GF n (srt X) := by
  refine ⟨n1, fun z => ?_, ⟨fun l h => ha l (srt_mem.mp h), srt_lt nd, fun l h m h' => an l (srt_mem.mp h) m (srt_mem.mp h')⟩, fun l h => hn l (srt_mem.mp h), fun l h => hl l (srt_mem.mp h)⟩
  have := srt_len X
  rw [z] at this
  exact ne (List.length_eq_zero_iff.mp this.symm)
theorem fan4 : GF 4 (fanL 4) := gf_srt (by decide) (by decide) (by decide) (by decide) (by decide) (by decide) (by decide)
theorem fan5 : GF 5 (fanL 5) := gf_srt (by decide) (by decide) (by decide) (by decide) (by decide) (by decide) (by decide +kernel)
theorem ring5 : GF 5 (ringL 5) := gf_srt (by decide) (by decide) (by decide) (by decide) (by decide) (by decide) (by decide)
theorem ring6 : GF 6 (ringL 6) := gf_srt (by decide) (by decide) (by decide) (by decide) (by decide) (by decide) (by decide +kernel)
theorem four : GF 4 (srt [[0, 1], [0, 2], [0, 3], [1, 2]]) := gf_srt (by decide) (by decide) (by decide) (by decide) (by decide) (by decide) (by decide)
theorem one1 {n : Nat} (h : 1 ≤ n) : GF n [[0]] := by
  have : GF 1 [[0]] := ⟨by decide, by decide, ⟨by decide, by decide, by decide⟩, by decide, by decide⟩
  exact this.up h
theorem sized42 : (sized 4 2).length = 6 := by
  unfold sized
  rw [srt_len]
  decide +kernel
theorem sized52 : (sized 5 2).length = 10 := by
  unfold sized
  rw [srt_len]
  decide +kernel
theorem sized53 : (sized 5 3).length = 10 := by
  unfold sized
  rw [srt_len]
  decide +kernel
theorem ring_gf : ∀ n, 8 ≤ n → n ≤ 12 → GF n (ringL n) := by
  intro n h1 h2
  have h : n = 8 ∨ n = 9 ∨ n = 10 ∨ n = 11 ∨ n = 12 := by omega
  rcases h with rfl | rfl | rfl | rfl | rfl <;> exact gf_srt (by decide) (by decide) (by decide +kernel) (by decide +kernel) (by decide +kernel) (by decide +kernel) (by decide +kernel)
end KM
set_option autoImplicit false
/-! The great families: rings of eight to twelve, fans of thirty-two and more. -/
namespace KM
theorem srt_is {X Y : List T} (nx : X.Nodup) (py : Y.Pairwise (· < ·)) (h1 : ∀ l ∈ X, l ∈ Y) (h2 : ∀ l ∈ Y, l ∈ X) : srt X = Y := ltT_ext (srt_lt nx) py fun x => by rw [srt_mem]; exact ⟨h1 x, h2 x⟩
def ringY (n : Nat) : List T := [0, 1] :: [0, n - 1] :: (List.range (n - 2)).map (fun i => [i + 1, i + 2])
def fanY (n : Nat) : List T := (List.range (n - 1)).map (fun i => [0, i + 1]) ++ [(List.range (n - 1)).map fun i => i + 1]
def keptOk (Y : List T) (b : Nat) : Bool := (List.range (Y.length + 1)).all fun i => decide (((Y.take i).foldl blkStep [0]).length < b)
theorem kept_all {Y : List T} {b : Nat} (h : keptOk Y b = true) (i : Nat) : ((Y.take i).foldl blkStep [0]).length < b := by
  unfold keptOk at h
  rw [List.all_eq_true] at h
  by_cases hi : i ≤ Y.length
  · exact of_decide_eq_true (h i (List.mem_range.mpr (by omega)))
  · have := of_decide_eq_true (h Y.length (List.mem_range.mpr (by omega)))
    rw [List.take_of_length_le (Nat.le_refl _)] at this
    rw [List.take_of_length_le (by omega)]
    exact this
theorem ring_eq : ∀ n, 8 ≤ n → n ≤ 12 → ringL n = ringY n := by
  intro n h1 h2
  have h : n = 8 ∨ n = 9 ∨ n = 10 ∨ n = 11 ∨ n = 12 := by omega
  rcases h with rfl | rfl | rfl | rfl | rfl <;> exact srt_is (by decide +kernel) (by decide +kernel) (by decide +kernel) (by decide +kernel)
theorem ring_kept : ∀ n, 8 ≤ n → n ≤ 12 → keptOk (ringL n) 500 = true := by
  intro n h1 h2
  rw [ring_eq n h1 h2]
  have h : n = 8 ∨ n = 9 ∨ n = 10 ∨ n = 11 ∨ n = 12 := by omega
  rcases h with rfl | rfl | rfl | rfl | rfl <;> decide +kernel
theorem fan_eq : ∀ n, (n = 32 ∨ n = 36 ∨ n = 40 ∨ n = 44 ∨ n = 48) → fanL n = fanY n := by
  intro n h
  rcases h with rfl | rfl | rfl | rfl | rfl <;> exact srt_id (by decide +kernel)
theorem fan_kept : ∀ n, (n = 32 ∨ n = 36 ∨ n = 40 ∨ n = 44 ∨ n = 48) → keptOk (fanL n) 500 = true := by
  intro n h
  rw [fan_eq n h]
  rcases h with rfl | rfl | rfl | rfl | rfl <;> decide +kernel
end KM
set_option autoImplicit false
/-! What the great families answer. -/
namespace KM
theorem fan_gf : ∀ n, (n = 32 ∨ n = 36 ∨ n = 40 ∨ n = 44 ∨ n = 48) → GF n (fanL n) := by
  intro n h
  rcases h with rfl | rfl | rfl | rfl | rfl <;> exact gf_srt (by decide) (by decide +kernel) (by decide +kernel) (by decide +kernel) (by decide +kernel) (by decide +kernel) (by decide +kernel)
def fanQ (n : Nat) : List T := [0] :: (List.range (n - 1)).reverse.map (fun i => (List.range n).filter (fun x => x != 0 && x != i + 1))
theorem fan_blk : ∀ n, (n = 32 ∨ n = 36 ∨ n = 40 ∨ n = 44 ∨ n = 48) → blockerLots (fanL n) = fanY n := by
  intro n h
  unfold blockerLots lotsOfMasks
  rw [fan_eq n h]
  rcases h with rfl | rfl | rfl | rfl | rfl <;> exact srt_is (by decide +kernel) (by decide +kernel) (by decide +kernel) (by decide +kernel)
theorem fan_quiet : ∀ n, (n = 32 ∨ n = 36 ∨ n = 40 ∨ n = 44 ∨ n = 48) → quiet n (fanL n) = fanQ n := by
  intro n h
  unfold quiet
  rw [fan_blk n h]
  rcases h with rfl | rfl | rfl | rfl | rfl <;> exact srt_is (by decide +kernel) (by decide +kernel) (by decide +kernel) (by decide +kernel)
theorem fanQ_len : ∀ n, (n = 32 ∨ n = 36 ∨ n = 40 ∨ n = 44 ∨ n = 48) → (fanQ n).length = n ∧ (fanQ n)[0]? = some [0] ∧ ∃ l, (fanQ n)[n - 1]? = some l ∧ l.length = n - 2 := by
  intro n h
  rcases h with rfl | rfl | rfl | rfl | rfl <;> exact ⟨by decide +kernel, rfl, _, rfl, by decide +kernel⟩
theorem one_of_anti {L : List T} (h : L.Pairwise (· < ·)) {b : T} (e : ∀ l ∈ L, l = b) : L.length ≤ 1 := by
  match L, h, e with
  | [], _, _ => simp
  | [_], _, _ => simp
  | x :: y :: r, h, e =>
    have h1 := (List.pairwise_cons.mp h).1 y (by simp)
    rw [e x (by simp), e y (by simp)] at h1
    exact absurd h1 (List.lt_irrefl b)
theorem rest_ne {n : Nat} {L : List T} (g : GF n L) : (blockerLots L).length ≤ 1 ∨ ∀ l ∈ blockerLots L, rest n l ≠ [] := by
  refine Classical.byContradiction fun z => ?_
  have gb := blocker_gf g
  have z1 : ¬ (blockerLots L).length ≤ 1 := fun h => z (.inl h)
  refine z (.inr fun b hb he => z1 (one_of_anti gb.g.lt (b := b) fun l hl => gb.g.anti l hl b hb fun x hx => ?_))
  refine Classical.byContradiction fun hn => ?_
  have : x ∈ rest n b := mem_rest.mpr ⟨gb.lt l hl x hx, hn⟩
  rw [he] at this
  cases this
end KM
set_option Elab.async false
set_option linter.all false
set_option autoImplicit false
set_option maxRecDepth 100000
set_option maxHeartbeats 4000000
namespace Y
open PySem L2
def topS (i : Nat) : Stmt := PySem.Challenge.pw_shortbynarrow_k01_a_set_or_its_rest.main.body.getD i (.Pass ⟨0, 0, 0, 0⟩)
/-- the built-in names are the built-ins' -/
structure Txt (mg : Str → Option Value) : Prop where
  len : mg "len" = none
  sum : mg "sum" = none
  all : mg "all" = none
  any : mg "any" = none
  sorted : mg "sorted" = none
  tuple : mg "tuple" = none
  list : mg "list" = none
  int : mg "int" = none
  bool : mg "bool" = none
  range : mg "range" = none
  isinstance : mg "isinstance" = none
  min : mg "min" = none
  max : mg "max" = none
/-- a set of things as it is held: small numbers, few -/
structure Sm (l : List Nat) : Prop where
  lt : ∀ x ∈ l, x < 1000
  len : l.length < 1000
theorem at_c {α : Type} {c : α → D} {E : List Slot} {i : Nat} {d : D} {l : List α} (h : E[i]? = some (.val d)) (e : d = .tup (l.map c)) : E[i]? = some (.val (.tup (l.map c))) := by rw [h, e]
section
variable {P : Program} {w : World} {K : PySem.W.Frag} {mg : Str → Option Value} {base : Heap}
/-! mask_of -/
abbrev s_mask_of : Stmt := topS 19
abbrev N_mask_of : List Str := ["things", "e"]
theorem sc_mask_of : FnScope N_mask_of ["things"] (defScope s_mask_of) := ⟨rfl, rfl, rfl, by decide +kernel, rfl, by decide +kernel, by decide +kernel⟩
def p_mask_of (ds : List D) (d : D) : Prop := ∃ l : List Nat, Sm l ∧ ds = [tD l] ∧ d = iD (KM.maskOf l)
theorem sum_cast : ∀ (l : List Nat), ((l.map fun (e : Nat) => ((2 ^ e : Nat) : Int))).sum = ((KM.maskOf l : Nat) : Int)
  | [] => rfl
  | a :: l => by
    have := sum_cast l
    rw [List.map_cons, List.sum_cons, this]
    simp [KM.maskOf]
theorem ok_mask_of {f : Addr} {fd : FuncData} (F : Fun K "mask_of" "mask_of" s_mask_of f fd) (T : Txt mg) : FnOk P w K mg base CX0 1 f fd ["things"] (Pure K p_mask_of) := by
  refine pure_ok F sc_mask_of (fun ds d h => by obtain ⟨l, _, rfl, _⟩ := h; rfl) (by decide) fun cdv A outer s H E hr => ?_
  refine ⟨_, (pss_one (ps_ret (pe_callB (cr_sum rfl) (by rfl) T.sum (by decide +kernel) (pa_cons (pe_lc (own := [("e", 1)]) (g := gName 1) rfl sc_mask_of.nd (pi_tup (pv 0)) (blkOk_by (N := N_mask_of) (sc := defScope s_mask_of) (by decide +kernel)) (fun _ _ _ _ _ => pg_name (i := 1) sc_mask_of.nd rfl (Or.inl rfl)) (fun _ _ _ _ _ => pts_nil) (fun _ _ _ _ _ => (pe_op op_shlW pe_int (pv 1)))) pa_nil)))), ?_⟩
  rintro ds d ⟨l, hl, rfl, rfl⟩ De o
  refine sd_ret (d := iD (KM.maskOf l)) (ep_cb (ea_cons (EF.p (ef_lcT1 (c := iD) (ts := l) (fun n => iD (2 ^ n)) (ep_var (at_c rfl (tD_eq l))) (fun _ _ => rfl) (by have := hl.len; omega) (fun n hn => ep_op ep_int (ep_var rfl) (r2_shl1 (by have := hl.lt n hn; omega))) (fun _ _ => rfl))) ea_nil) ?_) o.rt
  have h := rc_sum (K := K) (ns := l.map fun (e : Nat) => ((2 ^ e : Nat) : Int))
  rw [List.map_map, sum_cast] at h
  exact h
/-! things_of -/
abbrev s_things_of : Stmt := topS 20
abbrev N_things_of : List Str := ["mask", "e"]
theorem sc_things_of : FnScope N_things_of ["mask"] (defScope s_things_of) := ⟨rfl, rfl, rfl, by decide +kernel, rfl, by decide +kernel, by decide +kernel⟩
def p_things_of (ds : List D) (d : D) : Prop := ∃ m : Nat, m < 2 ^ 1000 ∧ ds = [iD m] ∧ d = tD (KM.thingsOf m)
theorem bitLen_lt {m : Nat} (h : m < 2 ^ 1000) : KM.bitLen m ≤ 1000 := by
  unfold KM.bitLen
  split
  · omega
  · rename_i h0
    have := (Nat.log2_lt h0).mpr h
    omega
theorem bit_test (m e : Nat) : ((m >>> e) &&& 1 == 1) = m.testBit e := by
  rw [Nat.testBit_eq_decide_div_mod_eq, Nat.and_one_is_mod, Nat.shiftRight_eq_div_pow]
  rfl
theorem ok_things_of {f : Addr} {fd : FuncData} (F : Fun K "things_of" "things_of" s_things_of f fd) (T : Txt mg) : FnOk P w K mg base CX0 1 f fd ["mask"] (Pure K p_things_of) := by
  refine pure_ok F sc_things_of (fun ds d h => by obtain ⟨l, _, rfl, _⟩ := h; rfl) (by decide) fun cdv A outer s H E hr => ?_
  refine ⟨_, (pss_one (ps_ret (pe_callTy call_tuple_of (by rfl) T.tuple (by decide +kernel) (pa_cons (pe_lc (own := [("e", 1)]) (g := gName 1) rfl sc_things_of.nd (pi_range1 (by rfl) T.range (pa_cons (pe_bits (pv 0)) pa_nil)) (blkOk_by (N := N_things_of) (sc := defScope s_things_of) (by decide +kernel)) (fun _ _ _ _ _ => pg_name (i := 1) sc_things_of.nd rfl (Or.inl rfl)) (fun _ _ _ _ _ => (pts_one (pt_cmpR op_eq (pe_op op_and (pe_op op_shr (pv 0) (pv 1)) pe_int) pe_int (nomark _)))) (fun _ _ _ _ _ => (pv 1))) pa_nil)))), ?_⟩
  rintro ds d ⟨m, hm, rfl, rfl⟩ De o
  have hb := bitLen_lt hm
  refine sd_ret (ep_is (ep_cb (ea_cons (EF.p (ef_lcR (fun e => m.testBit e) iD (ea_cons (ep_bits (ep_var rfl)) ea_nil) (by omega)
    (fun e _ => et_is (et_test (ep_op (ep_op (ep_op (ep_var rfl) (ep_var rfl) r2_shr) ep_n1 r2_and) ep_n1 r2_eqN)) (bit_test m e)) (fun e _ _ => ep_var rfl) (fun _ _ _ => rfl))) ea_nil) rc_tupleL) ?_) o.rt
  rw [tD_eq]
  rfl
/-! least_masks -/
abbrev s_least_masks : Stmt := topS 21
abbrev N_least_masks : List Str := ["masks", "kept", "mask", "one"]
theorem sc_least_masks : FnScope N_least_masks ["masks"] (defScope s_least_masks) := ⟨rfl, rfl, rfl, by decide +kernel, rfl, by decide +kernel, by decide +kernel⟩
def p_least_masks (ds : List D) (l : List D) : Prop := ∃ ms : List Nat, ms.length < 1000 ∧ ds = [nD ms] ∧ l = (KM.leastMasks ms).map iD
theorem leastStep_len (k : List Nat) (m : Nat) : (KM.leastStep k m).length ≤ k.length + 1 := by
  unfold KM.leastStep
  split <;> simp
theorem fold_len {α β : Type} (f : List β → α → List β) (n : Nat) (hf : ∀ k m, (f k m).length ≤ k.length + n) : ∀ (l : List α) (k : List β), (l.foldl f k).length ≤ k.length + n * l.length
  | [], k => by simp
  | m :: l, k => by
    have h1 := fold_len f n hf l (f k m)
    have h2 := hf k m
    rw [List.foldl_cons, List.length_cons, Nat.mul_succ]
    omega
theorem ok_least_masks {f : Addr} {fd : FuncData} (F : Fun K "least_masks" "least_masks" s_least_masks f fd) (T : Txt mg) : FnOk P w K mg base CX0 1 f fd ["masks"] (Fresh K p_least_masks) := by
  refine fresh_ok F sc_least_masks (fun ds d h => by obtain ⟨l, _, rfl, _⟩ := h; rfl) (by decide) fun cdv A outer s H E hr => ?_
  refine ⟨_, (pss_cons (ps_set (i := 1) sc_least_masks.nd rfl (Or.inl rfl) (pe_lst pa_nil))
    (pss_cons (ps_for PassesOwn.never rfl (pi_list (pe_callB cr_sortedI (by rfl) T.sorted (by decide +kernel) (pa_cons (pv 0) pa_nil))) (pg_name (i := 2) sc_least_masks.nd rfl (Or.inr rfl))
    (pss_one (ps_if (pt_val (pe_callB (cr_all rfl) (by rfl) T.all (by decide +kernel) (pa_cons (pe_lc (own := [("one", 3)]) (g := gName 3) rfl sc_least_masks.nd (pi_list (pv 1)) (blkOk_by (N := N_least_masks) (sc := defScope s_least_masks) (by decide +kernel)) (fun _ _ _ _ _ => pg_name (i := 3) sc_least_masks.nd rfl (Or.inl rfl)) (fun _ _ _ _ _ => pts_nil) (fun _ _ _ _ _ => (pe_cmpR op_ne (pe_op op_and (pv 3) (pv 2)) (pv 3) (nomark _)))) pa_nil))) (pss_one (ps_expr (pe_bm PySem.F.plainAttrs_list PySem.F.slot_list_append PySem.F.type_list_append mt_append (pv 1) (pa_cons (pv 2) pa_nil)))) pss_nil)))
    (pss_one (ps_ret (pv 1))))), ?_⟩
  rintro ds d ⟨ms, hz, rfl, rfl⟩ De o
  refine sd_seq (sd_asgO (ef_lst ea_nil) rfl fun p => sd_go ?_)
  have hl : ∀ i, (((KM.sortN ms).take i).foldl KM.leastStep []).length < 1000 := fun i => by
    have h1 := fold_len KM.leastStep 1 leastStep_len ((KM.sortN ms).take i) []
    have h2 : ((KM.sortN ms).take i).length ≤ ms.length := by rw [List.length_take, (KM.sortN_perm ms).length_eq]; omega
    rw [List.length_nil] at h1
    omega
  refine sd_seq (sd_forL (c := iD) (ts := KM.sortN ms) (ec_new (ef_cb (ea_cons (ep_var rfl) ea_nil) rf_sortedN) (imAll_nD _)) (fun i => [.val (nD ms), .own p ((((KM.sortN ms).take i).foldl KM.leastStep []).map iD), .no, .no]) rfl (fun Z' i m hm => ?_) (sd_go ?_))
  · rw [KM.fold_take _ _ hm]
    have hli := hl i
    generalize ((KM.sortN ms).take i).foldl KM.leastStep [] = kept at hli
    refine sd_if (et_B (ep_cb (ea_cons (EF.p (ef_lcL1 (c := iD) (ts := kept) (fun one => .bl (one &&& m != one)) (ep_own rfl) (fun _ _ => rfl) (by omega) (fun one _ => ep_op (ep_op (ep_var rfl) (ep_var rfl) r2_and) (ep_var rfl) r2_neN) (fun _ _ => rfl))) ea_nil) rc_allL)) (fun h => ?_) (fun h => ?_)
    · refine sd_app rfl (ep_var rfl) rfl (by rw [List.length_map]; omega) (sd_leF ?_)
      show LeE [_, _, _, _] [_, _, _, _]
      unfold KM.leastStep
      rw [if_pos h, List.map_append]
      exact .eq (.eq (.no (.no .nil)))
    · refine sd_leF ?_
      show LeE [_, _, _, _] [_, _, _, _]
      unfold KM.leastStep
      rw [if_neg (by rw [h]; decide)]
      exact .eq (.eq (.no (.no .nil)))
  · rw [List.take_length]
    exact sd_retO rfl o.rt
/-! lots_of_masks -/
abbrev s_lots_of_masks : Stmt := topS 22
abbrev N_lots_of_masks : List Str := ["masks", "mask"]
theorem sc_lots_of_masks : FnScope N_lots_of_masks ["masks"] (defScope s_lots_of_masks) := ⟨rfl, rfl, rfl, by decide +kernel, rfl, by decide +kernel, by decide +kernel⟩
def p_lots_of_masks (ds : List D) (d : D) : Prop := ∃ ms : List Nat, ms.length < 1000 ∧ (∀ m ∈ ms, m < 2 ^ 1000) ∧ (ms.length ≤ 1 ∨ ∀ m ∈ ms, m ≠ 0) ∧ ds = [nD ms] ∧ d = tsD (KM.lotsOfMasks ms)
theorem things_ne {m : Nat} (h : m ≠ 0) : KM.thingsOf m ≠ [] := fun e => h (by
  have := KM.mask_things m
  rw [e] at this
  exact this.symm)
theorem ok_lots_of_masks {f : Addr} {fd : FuncData} (F : Fun K "lots_of_masks" "lots_of_masks" s_lots_of_masks f fd) (T : Txt mg) (c_things_of : Cl P w K mg base 1 "things_of" (Pure K p_things_of)) : FnOk P w K mg base CX0 2 f fd ["masks"] (Pure K p_lots_of_masks) := by
  refine pure_ok F sc_lots_of_masks (fun ds d h => by obtain ⟨l, _, _, _, rfl, _⟩ := h; rfl) (by decide) fun cdv A outer s H E hr => ?_
  have hu := hr.units
  refine ⟨_, (pss_one (ps_ret (pe_callTy call_tuple_of (by rfl) T.tuple (by decide +kernel) (pa_cons (pe_callB (cr_sortY hu) (by rfl) T.sorted (by decide +kernel) (pa_cons (pe_lc (own := [("mask", 1)]) (g := gName 1) rfl sc_lots_of_masks.nd (pi_list (pv 0)) (blkOk_by (N := N_lots_of_masks) (sc := defScope s_lots_of_masks) (by decide +kernel)) (fun _ _ _ _ _ => pg_name (i := 1) sc_lots_of_masks.nd rfl (Or.inl rfl)) (fun _ _ _ _ _ => pts_nil) (fun _ _ _ _ _ => (pe_cl c_things_of hr (by decide) (by rfl) (pa_cons (pv 1) pa_nil)))) pa_nil)) pa_nil)))), ?_⟩
  rintro ds d ⟨ms, hz, hm, h0, rfl, rfl⟩ De o
  have hs : ((ms.map KM.thingsOf).length ≤ 1 ∨ ∀ t ∈ ms.map KM.thingsOf, t ≠ []) := by
    rcases h0 with h0 | h0
    · exact .inl (by rw [List.length_map]; exact h0)
    · refine .inr fun t ht => ?_
      obtain ⟨m, hm', rfl⟩ := List.mem_map.mp ht
      exact things_ne (h0 m hm')
  have e0 : EF K [] H (fun _ => True) (tLc (iList K (tVar 0)) (gName 1) tYes (tCall (Pure K p_things_of) [] E0 (tCons (tVar 1) tNil)) [1]) (entry N_lots_of_masks [nD ms]) ((ms.map KM.thingsOf).map tD) := by
    rw [List.map_map]
    exact ef_lcL1 (c := iD) (ts := ms) (fun m => tD (KM.thingsOf m)) (ep_var rfl) (fun _ _ => rfl) (by omega) (fun m hm' => ep_call (ea_cons (ep_var rfl) ea_nil) ⟨m, hm m hm', rfl, rfl⟩) (fun _ _ => tD_im _)
  exact sd_ret (ep_cb (ea_cons (EF.p (ef_cb (ea_cons (EF.p e0) ea_nil) (rf_sortY hs))) ea_nil) rc_tupleL) o.rt
/-! least_lots -/
abbrev s_least_lots : Stmt := topS 23
abbrev N_least_lots : List Str := ["lots", "lot"]
theorem sc_least_lots : FnScope N_least_lots ["lots"] (defScope s_least_lots) := ⟨rfl, rfl, rfl, by decide +kernel, rfl, by decide +kernel, by decide +kernel⟩
/-- lots as they are held -/
structure Lots (ls : List (List Nat)) : Prop where
  len : ls.length < 1000
  sm : ∀ l ∈ ls, Sm l
  asc : ∀ l ∈ ls, KM.Asc l
  ne : ∀ l ∈ ls, l ≠ []
def p_least_lots (ds : List D) (d : D) : Prop := ∃ ls : List (List Nat), Lots ls ∧ ds = [lsD ls] ∧ d = tsD (KM.leastLots ls)
theorem mask_lt {l : List Nat} (a : KM.Asc l) (h : Sm l) : KM.maskOf l < 2 ^ 1000 := by
  apply Nat.lt_pow_two_of_testBit
  intro i hi
  rw [KM.mask_bit a]
  simp only [decide_eq_false_iff_not]
  intro hm
  have := h.lt i hm
  omega
theorem mask_ne {l : List Nat} (a : KM.Asc l) (h : l ≠ []) : KM.maskOf l ≠ 0 := fun e => by
  have := KM.things_mask a
  rw [e] at this
  exact h this.symm
theorem leastMasks_sub {ms : List Nat} : ∀ m ∈ KM.leastMasks ms, m ∈ ms := by
  have key : ∀ (r k : List Nat), (∀ m ∈ r.foldl KM.leastStep k, m ∈ k ∨ m ∈ r) := by
    intro r
    induction r with
    | nil => intro k m h; exact .inl h
    | cons a r ih =>
      intro k m h
      rw [List.foldl_cons] at h
      rcases ih _ m h with h | h
      · unfold KM.leastStep at h
        split at h
        · rcases List.mem_append.mp h with h | h
          · exact .inl h
          · exact .inr (by simp at h; rw [h]; exact List.mem_cons_self)
        · exact .inl h
      · exact .inr (List.mem_cons_of_mem _ h)
  intro m h
  rcases key _ _ m h with h | h
  · cases h
  · exact (KM.sortN_perm ms).mem_iff.mp h
theorem leastMasks_len (ms : List Nat) : (KM.leastMasks ms).length ≤ ms.length := by
  have h1 := fold_len KM.leastStep 1 leastStep_len (KM.sortN ms) []
  rw [(KM.sortN_perm ms).length_eq, List.length_nil] at h1
  unfold KM.leastMasks
  omega
theorem ok_least_lots {f : Addr} {fd : FuncData} (F : Fun K "least_lots" "least_lots" s_least_lots f fd) (T : Txt mg) (c_mask_of : Cl P w K mg base 1 "mask_of" (Pure K p_mask_of)) (c_least_masks : Cl P w K mg base 1 "least_masks" (Fresh K p_least_masks))
    (c_lots_of_masks : Cl P w K mg base 2 "lots_of_masks" (Pure K p_lots_of_masks)) : FnOk P w K mg base CX0 3 f fd ["lots"] (Pure K p_least_lots) := by
  refine pure_ok F sc_least_lots (fun ds d h => by obtain ⟨l, _, rfl, _⟩ := h; rfl) (by decide) fun cdv A outer s H E hr => ?_
  refine ⟨_, (pss_one (ps_ret (pe_cl c_lots_of_masks hr (by decide) (by rfl) (pa_cons (pe_cl c_least_masks hr (by decide) (by rfl) (pa_cons (pe_lc (own := [("lot", 1)]) (g := gName 1) rfl sc_least_lots.nd (pi_list (pv 0)) (blkOk_by (N := N_least_lots) (sc := defScope s_least_lots) (by decide +kernel)) (fun _ _ _ _ _ => pg_name (i := 1) sc_least_lots.nd rfl (Or.inl rfl)) (fun _ _ _ _ _ => pts_nil) (fun _ _ _ _ _ => (pe_cl c_mask_of hr (by decide) (by rfl) (pa_cons (pv 1) pa_nil)))) pa_nil)) pa_nil)))), ?_⟩
  rintro ds d ⟨ls, hL, rfl, rfl⟩ De o
  have hz := hL.len
  have e0 : EF K [] H (fun _ => True) (tLc (iList K (tVar 0)) (gName 1) tYes (tCall (Pure K p_mask_of) [] E0 (tCons (tVar 1) tNil)) [1]) (entry N_least_lots [lsD ls]) ((ls.map KM.maskOf).map iD) := by
    rw [List.map_map]
    exact ef_lcL1 (c := tD) (ts := ls) (fun l => iD (KM.maskOf l)) (ep_var rfl) (fun _ _ => tD_im _) (by omega) (fun l hl => ep_call (ea_cons (ep_var rfl) ea_nil) ⟨l, hL.sm l hl, rfl, rfl⟩) (fun _ _ => rfl)
  refine sd_ret (ep_call (ea_cons (EF.p (ef_call (ea_cons (EF.p e0) ea_nil) ⟨ls.map KM.maskOf, by rw [List.length_map]; exact hz, rfl, rfl⟩)) ea_nil) ⟨KM.leastMasks (ls.map KM.maskOf), ?_, fun m hm => ?_, .inr fun m hm => ?_, rfl, rfl⟩) o.rt
  · have := leastMasks_len (ls.map KM.maskOf)
    rw [List.length_map] at this
    omega
  · obtain ⟨l, hl, rfl⟩ := List.mem_map.mp (leastMasks_sub m hm)
    exact mask_lt (hL.asc l hl) (hL.sm l hl)
  · obtain ⟨l, hl, rfl⟩ := List.mem_map.mp (leastMasks_sub m hm)
    exact mask_ne (hL.asc l hl) (hL.ne l hl)
end
end Y
set_option Elab.async false
set_option linter.all false
set_option autoImplicit false
set_option maxRecDepth 100000
set_option maxHeartbeats 4000000
namespace Y
open PySem L2
section
variable {P : Program} {w : World} {K : PySem.W.Frag} {mg : Str → Option Value} {base : Heap}
/-! blocker_lots -/
abbrev s_blocker_lots : Stmt := topS 24
abbrev N_blocker_lots : List Str := ["lots", "kept", "lot", "mask", "met", "one", "missed", "grown", "e", "near", "wide", "two"]
theorem sc_blocker_lots : FnScope N_blocker_lots ["lots"] (defScope s_blocker_lots) := ⟨rfl, rfl, rfl, by decide +kernel, rfl, by decide +kernel, by decide +kernel⟩
def keptAt (ls : List (List Nat)) (i : Nat) : List Nat := (ls.take i).foldl KM.blkStep [0]
def p_blocker_lots (ds : List D) (d : D) : Prop := ∃ ls : List (List Nat), Lots ls ∧ (∀ i, (keptAt ls i).length < 1000) ∧ ds = [tsD ls] ∧ d = tsD (KM.blockerLots ls)
def grow1 (met : List Nat) (mask e : Nat) (g : List Nat) (one : Nat) : List Nat := if (met.filter (fun t => t &&& mask == 2 ^ e)).all (fun two => two &&& (one ||| 2 ^ e) != two) then g ++ [one ||| 2 ^ e] else g
theorem grownAt_eq (met missed : List Nat) (mask : Nat) (g : List Nat) (e : Nat) : KM.grownAt met missed mask g e = missed.foldl (grow1 met mask e) g := rfl
theorem grow1_ge (met : List Nat) (mask e : Nat) (g : List Nat) (one : Nat) : g.length ≤ (grow1 met mask e g one).length := by
  unfold grow1
  split <;> simp
theorem fold_ge {α β : Type} (f : List β → α → List β) (hf : ∀ k m, k.length ≤ (f k m).length) : ∀ (l : List α) (k : List β), k.length ≤ (l.foldl f k).length
  | [], k => Nat.le_refl _
  | m :: l, k => Nat.le_trans (hf k m) (fold_ge f hf l (f k m))
theorem fold_part {α β : Type} (f : List β → α → List β) (hf : ∀ k m, k.length ≤ (f k m).length) (l : List α) (k : List β) (i : Nat) : ((l.take i).foldl f k).length ≤ (l.foldl f k).length := by
  have e : l = l.take i ++ l.drop i := (List.take_append_drop i l).symm
  have h := fold_ge f hf (l.drop i) ((l.take i).foldl f k)
  rw [← List.foldl_append, List.take_append_drop] at h
  exact h
theorem grown_ge (met missed : List Nat) (mask : Nat) (g : List Nat) (e : Nat) : g.length ≤ (KM.grownAt met missed mask g e).length := fold_ge _ (fun k m => grow1_ge met mask e k m) _ _
/-- all masks are small -/
theorem kept_lt {ls : List (List Nat)} (hL : ∀ l ∈ ls, Sm l) : ∀ m ∈ ls.foldl KM.blkStep [0], m < 2 ^ 1000 := by
  have g1 : ∀ (met missed : List Nat) (mask e : Nat), e < 1000 → (∀ m ∈ missed, m < 2 ^ 1000) → ∀ g : List Nat, (∀ m ∈ g, m < 2 ^ 1000) → ∀ m ∈ KM.grownAt met missed mask g e, m < 2 ^ 1000 := by
    intro met missed mask e he
    induction missed with
    | nil => intro _ g hg; exact hg
    | cons a r ih =>
      intro hm g hg
      refine ih (fun m h => hm m (List.mem_cons_of_mem _ h)) (grow1 met mask e g a) fun m h => ?_
      unfold grow1 at h
      split at h
      · rcases List.mem_append.mp h with h | h
        · exact hg m h
        · have : m = a ||| 2 ^ e := by simpa using h
          rw [this]
          exact Nat.or_lt_two_pow (hm a List.mem_cons_self) (Nat.pow_lt_pow_right (by omega) he)
      · exact hg m h
  have g2 : ∀ (lot : List Nat) (met missed : List Nat) (mask : Nat), (∀ x ∈ lot, x < 1000) → (∀ m ∈ missed, m < 2 ^ 1000) → ∀ g : List Nat, (∀ m ∈ g, m < 2 ^ 1000) → ∀ m ∈ lot.foldl (KM.grownAt met missed mask) g, m < 2 ^ 1000 := by
    intro lot met missed mask
    induction lot with
    | nil => intro _ _ g hg; exact hg
    | cons a r ih =>
      intro h1 h2 g hg
      exact ih (fun x h => h1 x (List.mem_cons_of_mem _ h)) h2 _ (g1 met missed mask a (h1 a List.mem_cons_self) h2 g hg)
  have key : ∀ (ls : List (List Nat)), (∀ l ∈ ls, Sm l) → ∀ k : List Nat, (∀ m ∈ k, m < 2 ^ 1000) → ∀ m ∈ ls.foldl KM.blkStep k, m < 2 ^ 1000 := by
    intro ls
    induction ls with
    | nil => intro _ k hk; exact hk
    | cons a r ih =>
      intro h1 k hk
      refine ih (fun l h => h1 l (List.mem_cons_of_mem _ h)) _ fun m h => ?_
      rcases List.mem_append.mp h with h | h
      · exact hk m (List.mem_filter.mp h).1
      · exact g2 a _ _ _ (h1 a List.mem_cons_self).lt (fun m h => hk m (List.mem_filter.mp h).1) [] (by simp) m h
  exact key ls hL [0] (by simp; exact Nat.two_pow_pos 1000)
theorem step_ne (k : List Nat) (lot : List Nat) : ∀ m ∈ KM.blkStep k lot, m ≠ 0 := by
  have g1 : ∀ (missed met : List Nat) (mask e : Nat) (g : List Nat), (∀ m ∈ g, m ≠ 0) → ∀ m ∈ KM.grownAt met missed mask g e, m ≠ 0 := by
    intro missed met mask e
    induction missed with
    | nil => intro g hg; exact hg
    | cons a r ih =>
      intro g hg
      refine ih (grow1 met mask e g a) fun m h => ?_
      unfold grow1 at h
      split at h
      · rcases List.mem_append.mp h with h | h
        · exact hg m h
        · have : m = a ||| 2 ^ e := by simpa using h
          intro z
          have hb : (a ||| 2 ^ e).testBit e = true := by simp [Nat.testBit_or]
          rw [← this, z] at hb
          simp at hb
      · exact hg m h
  have g2 : ∀ (lot : List Nat) (met missed : List Nat) (mask : Nat) (g : List Nat), (∀ m ∈ g, m ≠ 0) → ∀ m ∈ lot.foldl (KM.grownAt met missed mask) g, m ≠ 0 := by
    intro lot met missed mask
    induction lot with
    | nil => intro g hg; exact hg
    | cons a r ih => intro g hg; exact ih _ (g1 missed met mask a g hg)
  intro m h
  rcases List.mem_append.mp h with h | h
  · intro z
    subst z
    have := (List.mem_filter.mp h).2
    simp at this
  · exact g2 lot _ _ _ [] (by simp) m h
theorem kept_ne {ls : List (List Nat)} (h : ls ≠ []) : ∀ m ∈ ls.foldl KM.blkStep [0], m ≠ 0 := by
  have e : ls = ls.dropLast ++ [ls.getLast h] := (List.dropLast_concat_getLast h).symm
  rw [e, List.foldl_append]
  exact step_ne _ _
theorem ok_blocker_lots {f : Addr} {fd : FuncData} (F : Fun K "blocker_lots" "blocker_lots" s_blocker_lots f fd) (T : Txt mg) (c_mask_of : Cl P w K mg base 1 "mask_of" (Pure K p_mask_of))
    (c_lots_of_masks : Cl P w K mg base 2 "lots_of_masks" (Pure K p_lots_of_masks)) : FnOk P w K mg base CX0 3 f fd ["lots"] (Pure K p_blocker_lots) := by
  refine pure_ok F sc_blocker_lots (fun ds d h => by obtain ⟨l, _, _, rfl, _⟩ := h; rfl) (by decide) fun cdv A outer s H E hr => ?_
  refine ⟨_, (pss_cons (ps_set (i := 1) sc_blocker_lots.nd rfl (Or.inl rfl) (pe_lst (pa_cons pe_int pa_nil)))
    (pss_cons (ps_for PassesOwn.never rfl (pi_tup (pv 0)) (pg_name (i := 2) sc_blocker_lots.nd rfl (Or.inl rfl))
    (pss_cons (ps_set (i := 3) sc_blocker_lots.nd rfl (Or.inr rfl) (pe_cl c_mask_of hr (by decide) (by rfl) (pa_cons (pv 2) pa_nil)))
    (pss_cons (ps_setLc (i := 4) (own := [("one", 5)]) (g := gName 5) rfl sc_blocker_lots.nd rfl rfl (sw_true rfl rfl rfl (by decide +kernel)) (pi_list (pv 1)) (blkOk_by (N := N_blocker_lots) (sc := defScope s_blocker_lots) (by decide +kernel)) (fun _ _ _ _ _ => pg_name (i := 5) sc_blocker_lots.nd rfl (Or.inl rfl)) (fun _ _ _ _ _ => (pts_one (pt_cmpR op_ne (pe_op op_and (pv 5) (pv 3)) pe_int (nomark _)))) (fun _ _ _ _ _ => (pv 5)))
    (pss_cons (ps_setLc (i := 6) (own := [("one", 5)]) (g := gName 5) rfl sc_blocker_lots.nd rfl rfl (sw_true rfl rfl rfl (by decide +kernel)) (pi_list (pv 1)) (blkOk_by (N := N_blocker_lots) (sc := defScope s_blocker_lots) (by decide +kernel)) (fun _ _ _ _ _ => pg_name (i := 5) sc_blocker_lots.nd rfl (Or.inl rfl)) (fun _ _ _ _ _ => (pts_one (pt_cmpR op_eq (pe_op op_and (pv 5) (pv 3)) pe_int (nomark _)))) (fun _ _ _ _ _ => (pv 5)))
    (pss_cons (ps_set (i := 7) sc_blocker_lots.nd rfl (Or.inl rfl) (pe_lst pa_nil))
    (pss_cons (ps_for PassesOwn.never rfl (pi_tup (pv 2)) (pg_name (i := 8) sc_blocker_lots.nd rfl (Or.inr rfl))
    (pss_cons (ps_setLc (i := 9) (own := [("one", 5)]) (g := gName 5) rfl sc_blocker_lots.nd rfl rfl (sw_true rfl rfl rfl (by decide +kernel)) (pi_list (pv 4)) (blkOk_by (N := N_blocker_lots) (sc := defScope s_blocker_lots) (by decide +kernel)) (fun _ _ _ _ _ => pg_name (i := 5) sc_blocker_lots.nd rfl (Or.inl rfl)) (fun _ _ _ _ _ => (pts_one (pt_cmpR op_eq (pe_op op_and (pv 5) (pv 3)) (pe_op op_shlW pe_int (pv 8)) (nomark _)))) (fun _ _ _ _ _ => (pv 5)))
    (pss_one (ps_for PassesOwn.never rfl (pi_list (pv 6)) (pg_name (i := 5) sc_blocker_lots.nd rfl (Or.inl rfl))
    (pss_cons (ps_set (i := 10) sc_blocker_lots.nd rfl (Or.inr rfl) (pe_op op_or (pv 5) (pe_op op_shlW pe_int (pv 8))))
    (pss_one (ps_if (pt_val (pe_callB (cr_all rfl) (by rfl) T.all (by decide +kernel) (pa_cons (pe_lc (own := [("two", 11)]) (g := gName 11) rfl sc_blocker_lots.nd (pi_list (pv 9)) (blkOk_by (N := N_blocker_lots) (sc := defScope s_blocker_lots) (by decide +kernel)) (fun _ _ _ _ _ => pg_name (i := 11) sc_blocker_lots.nd rfl (Or.inl rfl)) (fun _ _ _ _ _ => pts_nil) (fun _ _ _ _ _ => (pe_cmpR op_ne (pe_op op_and (pv 11) (pv 10)) (pv 11) (nomark _)))) pa_nil))) (pss_one (ps_expr (pe_bm PySem.F.plainAttrs_list PySem.F.slot_list_append PySem.F.type_list_append mt_append (pv 7) (pa_cons (pv 10) pa_nil)))) pss_nil)))))))
    (pss_one (ps_set (i := 1) sc_blocker_lots.nd rfl (Or.inl rfl) (pe_op op_cat (pv 4) (pv 7))))))))))
    (pss_one (ps_ret (pe_cl c_lots_of_masks hr (by decide) (by rfl) (pa_cons (pv 1) pa_nil)))))), ?_⟩
  rintro ds d ⟨ls, hL, hk, rfl, rfl⟩ De o
  refine sd_seq (sd_asgL (ef_lst (ea_cons ep_n0 ea_nil)) rfl (sd_go ?_))
  refine sd_seq (sd_forT (c := tD) (ts := ls) (ec_var rfl) (fun i => [.val (tsD ls), .val (nD (keptAt ls i)), .no, .no, .no, .no, .no, .no, .no, .no, .no, .no]) rfl (fun Z' i lot hlot => ?_) (sd_go ?_))
  · have hsm := hL.sm lot (List.mem_of_getElem? hlot)
    have hki := hk i
    have hki1 := hk (i + 1)
    have e1 : keptAt ls (i + 1) = KM.blkStep (keptAt ls i) lot := KM.fold_take _ _ hlot
    rw [e1] at hki1 ⊢
    generalize keptAt ls i = kept at hki hki1
    refine sd_seq (sd_asg (ep_call (ea_cons (ep_var rfl) ea_nil) ⟨lot, hsm, rfl, rfl⟩) rfl (sd_go ?_))
    refine sd_seq (sd_asgO (ef_lcL (c := iD) (ts := kept) (fun one => one &&& KM.maskOf lot != 0) iD (ep_var rfl) (fun _ _ => rfl) (by omega) (fun one _ => et_test (ep_op (ep_op (ep_var rfl) (ep_var rfl) r2_and) ep_n0 r2_neN)) (fun one _ _ => ep_var rfl) (fun _ _ _ => rfl)) (imAll_nD _) fun q => sd_go ?_)
    refine sd_seq (sd_asgL (ef_lcL (c := iD) (ts := kept) (fun one => one &&& KM.maskOf lot == 0) iD (ep_var rfl) (fun _ _ => rfl) (by omega) (fun one _ => et_test (ep_op (ep_op (ep_var rfl) (ep_var rfl) r2_and) ep_n0 r2_eqN)) (fun one _ _ => ep_var rfl) (fun _ _ _ => rfl)) (imAll_nD _) (sd_go ?_))
    have hml : (kept.filter fun one => one &&& KM.maskOf lot != 0).length ≤ kept.length := List.length_filter_le _ _
    have hsl : (kept.filter fun one => one &&& KM.maskOf lot == 0).length ≤ kept.length := List.length_filter_le _ _
    have hgl : (lot.foldl (KM.grownAt (kept.filter fun one => one &&& KM.maskOf lot != 0) (kept.filter fun one => one &&& KM.maskOf lot == 0) (KM.maskOf lot)) []).length < 1000 := by
      have := hki1
      unfold KM.blkStep at this
      rw [List.length_append] at this
      omega
    unfold KM.blkStep
    generalize (kept.filter fun one => one &&& KM.maskOf lot != 0) = met at hml hgl
    generalize (kept.filter fun one => one &&& KM.maskOf lot == 0) = missed at hsl hgl
    refine sd_seq (sd_asgO (ef_lst ea_nil) rfl fun p => sd_go ?_)
    refine sd_seq (sd_forT (c := iD) (ts := lot) (ec_im (ep_var (at_c rfl (tD_eq lot))) (by rw [← tD_eq]; exact tD_im lot)) (fun j => [.val (tsD ls), .val (nD kept), .val (tD lot), .val (iD (KM.maskOf lot)), .own q (met.map iD), .no, .val (nD missed), .own p (((lot.take j).foldl (KM.grownAt met missed (KM.maskOf lot)) []).map iD), .no, .no, .no, .no]) rfl (fun Z2 j e he => ?_) (sd_go ?_))
    · have hel := hsm.lt e (List.mem_of_getElem? he)
      rw [KM.fold_take _ _ he]
      have hpart : (KM.grownAt met missed (KM.maskOf lot) ((lot.take j).foldl (KM.grownAt met missed (KM.maskOf lot)) []) e).length < 1000 := by
        rw [← KM.fold_take (KM.grownAt met missed (KM.maskOf lot)) [] he]
        have := fold_part (KM.grownAt met missed (KM.maskOf lot)) (fun k m => grown_ge met missed (KM.maskOf lot) k m) lot [] (j + 1)
        omega
      generalize (lot.take j).foldl (KM.grownAt met missed (KM.maskOf lot)) [] = g at hpart
      rw [grownAt_eq] at hpart ⊢
      refine sd_seq (sd_asgL (ef_lcL (c := iD) (ts := met) (fun one => one &&& KM.maskOf lot == 2 ^ e) iD (ep_own rfl) (fun _ _ => rfl) (by omega) (fun one _ => et_test (ep_op (ep_op (ep_var rfl) (ep_var rfl) r2_and) (ep_op ep_int (ep_var rfl) (r2_shl1 (by omega))) r2_eqN)) (fun one _ _ => ep_var rfl) (fun _ _ _ => rfl)) (imAll_nD _) (sd_go ?_))
      have hnl : (met.filter fun one => one &&& KM.maskOf lot == 2 ^ e).length ≤ met.length := List.length_filter_le _ _
      refine sd_forL (c := iD) (ts := missed) (ec_var rfl) (fun k => [.val (tsD ls), .val (nD kept), .val (tD lot), .val (iD (KM.maskOf lot)), .own q (met.map iD), .no, .val (nD missed), .own p (((missed.take k).foldl (grow1 met (KM.maskOf lot) e) g).map iD), .val (iD e), .val (nD (met.filter fun one => one &&& KM.maskOf lot == 2 ^ e)), .no, .no]) ?_ (fun Z3 k one hone => ?_) ?_
      · rfl
      · rw [KM.fold_take _ _ hone]
        have hp2 := fold_part (grow1 met (KM.maskOf lot) e) (fun k m => grow1_ge met (KM.maskOf lot) e k m) missed g k
        generalize (missed.take k).foldl (grow1 met (KM.maskOf lot) e) g = g2 at hp2
        refine sd_seq (sd_asg (ep_op (ep_var rfl) (ep_op ep_int (ep_var rfl) (r2_shl1 (by omega))) r2_or) rfl (sd_go ?_))
        refine sd_if (et_B (ep_cb (ea_cons (EF.p (ef_lcL1 (c := iD) (ts := met.filter fun one => one &&& KM.maskOf lot == 2 ^ e) (fun two => .bl (two &&& (one ||| 2 ^ e) != two)) (ep_var rfl) (fun _ _ => rfl) (by omega) (fun two _ => ep_op (ep_op (ep_var rfl) (ep_var rfl) r2_and) (ep_var rfl) r2_neN) (fun _ _ => rfl))) ea_nil) rc_allL)) (fun h => ?_) (fun h => ?_)
        · refine sd_app rfl (ep_var rfl) rfl (by rw [List.length_map]; omega) (sd_leF ?_)
          show LeE [_, _, _, _, _, _, _, _, _, _, _, _] [_, _, _, _, _, _, _, _, _, _, _, _]
          unfold grow1
          rw [if_pos h, List.map_append]
          exact .eq (.eq (.eq (.eq (.eq (.no (.eq (.eq (.eq (.eq (.no (.no .nil)))))))))))
        · refine sd_leF ?_
          show LeE [_, _, _, _, _, _, _, _, _, _, _, _] [_, _, _, _, _, _, _, _, _, _, _, _]
          unfold grow1
          rw [if_neg (by rw [h]; decide)]
          exact .eq (.eq (.eq (.eq (.eq (.no (.eq (.eq (.eq (.eq (.no (.no .nil)))))))))))
      · rw [List.take_length]
        refine sd_leF ?_
        show LeE [_, _, _, _, _, _, _, _, _, _, _, _] [_, _, _, _, _, _, _, _, _, _, _, _]
        exact .eq (.eq (.eq (.eq (.eq (.no (.eq (.eq (.no (.no (.no (.no .nil)))))))))))
    · rw [List.take_length]
      refine sd_asgL (ef_cat (el_own rfl) (el_own rfl) (by rw [List.length_map, List.length_map]; omega)) (by rw [← List.map_append]; exact imAll_nD _) (sd_leF ?_)
      show LeE [_, _, _, _, _, _, _, _, _, _, _, _] [_, _, _, _, _, _, _, _, _, _, _, _]
      rw [← List.map_append]
      exact .eq (.eq (.no (.no (.no (.no (.no (.no (.no (.no (.no (.no .nil)))))))))))
  · have e1 : keptAt ls ls.length = ls.foldl KM.blkStep [0] := by unfold keptAt; rw [List.take_length]
    have hkl := hk ls.length
    rw [e1] at hkl ⊢
    refine sd_ret (ep_call (ea_cons (ep_var rfl) ea_nil) ⟨_, hkl, kept_lt hL.sm, ?_, rfl, rfl⟩) o.rt
    by_cases h : ls = []
    · subst h
      exact .inl (by simp)
    · exact .inr (kept_ne h)
end
end Y
set_option Elab.async false
set_option linter.all false
set_option autoImplicit false
set_option maxRecDepth 100000
set_option maxHeartbeats 4000000
namespace Y
open PySem L2
theorem tD_at {E : List Slot} {i : Nat} {l : List Nat} (h : E[i]? = some (.val (tD l))) : E[i]? = some (.val (.tup (l.map iD))) := by rw [h, tD_eq]
theorem in_at {K : PySem.W.Frag} {a : Nat} {l : List Nat} : R2d K (rIn K false) (iD a) (tD l) (.bl (decide (a ∈ l))) := by
  have h := r2_inI (K := K) (i := (a : Int)) (ns := zs l) (y := tD l) (.inl rfl)
  have e : decide ((a : Int) ∈ zs l) = decide (a ∈ l) := by
    rw [Bool.eq_iff_iff, decide_eq_true_iff, decide_eq_true_iff]
    unfold zs
    rw [List.mem_map]
    constructor
    · rintro ⟨b, h1, h2⟩
      have : b = a := by omega
      rw [← this]; exact h1
    · intro h; exact ⟨a, h, rfl⟩
  rw [e] at h
  exact h
theorem nin_at {K : PySem.W.Frag} {a : Nat} {l : List Nat} : R2d K (rIn K true) (iD a) (tD l) (.bl (!decide (a ∈ l))) := by
  have h := r2_ninI (K := K) (i := (a : Int)) (ns := zs l) (y := tD l) (.inl rfl)
  have e : decide ((a : Int) ∈ zs l) = decide (a ∈ l) := by
    rw [Bool.eq_iff_iff, decide_eq_true_iff, decide_eq_true_iff]
    unfold zs
    rw [List.mem_map]
    constructor
    · rintro ⟨b, h1, h2⟩
      have : b = a := by omega
      rw [← this]; exact h1
    · intro h; exact ⟨a, h, rfl⟩
  rw [e] at h
  exact h
section
variable {P : Program} {w : World} {K : PySem.W.Frag} {mg : Str → Option Value} {base : Heap}
/-! inside -/
abbrev s_law_inside : Stmt := topS 46
abbrev N_law_inside : List Str := ["_law_one", "_law_other", "_law_thing"]
theorem sc_law_inside : FnScope N_law_inside ["_law_one", "_law_other"] (defScope s_law_inside) := ⟨rfl, rfl, rfl, by decide +kernel, rfl, by decide +kernel, by decide +kernel⟩
def p_law_inside (ds : List D) (d : D) : Prop := ∃ a b : List Nat, a.length < 1000 ∧ ds = [tD a, tD b] ∧ d = .bl (KM.inside a b)
theorem ok_law_inside {f : Addr} {fd : FuncData} (F : Fun K "_law_inside" "_law_inside" s_law_inside f fd) (T : Txt mg) : FnOk P w K mg base CX0 1 f fd ["_law_one", "_law_other"] (Pure K p_law_inside) := by
  refine pure_ok F sc_law_inside (fun ds d h => by obtain ⟨_, _, _, rfl, _⟩ := h; rfl) (by decide) fun cdv A outer s H E hr => ?_
  refine ⟨_, (pss_one (ps_ret (pe_cmpR op_eq (pe_callB call_len_seq (by rfl) T.len PySem.boot_len (pa_cons (pe_lc (own := [("_law_thing", 2)]) (g := gName 2) rfl sc_law_inside.nd (pi_tup (pv 0)) (blkOk_by (N := N_law_inside) (sc := defScope s_law_inside) (by decide +kernel)) (fun _ _ _ _ _ => pg_name (i := 2) sc_law_inside.nd rfl (Or.inl rfl)) (fun _ _ _ _ _ => (pts_one (pt_cmpR (r := rIn K true) op_notIn_seq (pv 2) (pv 1) rfl))) (fun _ _ _ _ _ => (pv 2))) pa_nil)) pe_int (nomark _)))), ?_⟩
  rintro ds d ⟨a, b, hz, rfl, rfl⟩ De o
  exact sd_ret (ep_op (ep_cb (ea_cons (EF.p (ef_lcT (c := iD) (ts := a) (fun x => !decide (x ∈ b)) iD (ep_var (tD_at rfl)) (fun _ _ => rfl) (by omega) (fun x _ => et_test (ep_op (ep_var rfl) (ep_var rfl) nin_at)) (fun x _ _ => ep_var rfl) (fun _ _ _ => rfl))) ea_nil) rc_lenLn) ep_n0 r2_eqN) o.rt
/-! common -/
abbrev s_law_common : Stmt := topS 47
abbrev N_law_common : List Str := ["_law_one", "_law_other", "_law_thing"]
theorem sc_law_common : FnScope N_law_common ["_law_one", "_law_other"] (defScope s_law_common) := ⟨rfl, rfl, rfl, by decide +kernel, rfl, by decide +kernel, by decide +kernel⟩
def p_law_common (ds : List D) (d : D) : Prop := ∃ a b : List Nat, a.length < 1000 ∧ ds = [tD a, tD b] ∧ d = iD (KM.common a b)
theorem ok_law_common {f : Addr} {fd : FuncData} (F : Fun K "_law_common" "_law_common" s_law_common f fd) (T : Txt mg) : FnOk P w K mg base CX0 1 f fd ["_law_one", "_law_other"] (Pure K p_law_common) := by
  refine pure_ok F sc_law_common (fun ds d h => by obtain ⟨_, _, _, rfl, _⟩ := h; rfl) (by decide) fun cdv A outer s H E hr => ?_
  refine ⟨_, (pss_one (ps_ret (pe_callB call_len_seq (by rfl) T.len PySem.boot_len (pa_cons (pe_lc (own := [("_law_thing", 2)]) (g := gName 2) rfl sc_law_common.nd (pi_tup (pv 0)) (blkOk_by (N := N_law_common) (sc := defScope s_law_common) (by decide +kernel)) (fun _ _ _ _ _ => pg_name (i := 2) sc_law_common.nd rfl (Or.inl rfl)) (fun _ _ _ _ _ => (pts_one (pt_cmpR (r := rIn K false) op_in_seq (pv 2) (pv 1) rfl))) (fun _ _ _ _ _ => (pv 2))) pa_nil)))), ?_⟩
  rintro ds d ⟨a, b, hz, rfl, rfl⟩ De o
  exact sd_ret (ep_cb (ea_cons (EF.p (ef_lcT (c := iD) (ts := a) (fun x => decide (x ∈ b)) iD (ep_var (tD_at rfl)) (fun _ _ => rfl) (by omega) (fun x _ => et_test (ep_op (ep_var rfl) (ep_var rfl) in_at)) (fun x _ _ => ep_var rfl) (fun _ _ _ => rfl))) ea_nil) rc_lenLn) o.rt
/-! subsets -/
abbrev s_law_subsets : Stmt := topS 48
abbrev N_law_subsets : List Str := ["_law_size", "_law_found", "_law_thing", "_law_those"]
theorem sc_law_subsets : FnScope N_law_subsets ["_law_size"] (defScope s_law_subsets) := ⟨rfl, rfl, rfl, by decide +kernel, rfl, by decide +kernel, by decide +kernel⟩
def p_law_subsets (ds : List D) (l : List D) : Prop := ∃ n : Nat, n ≤ 12 ∧ ds = [iD n] ∧ l = (KM.subsets n).map tD
theorem tD_app (l : List Nat) (n : Nat) : D.tup ((l.map iD) ++ [iD n]) = tD (l ++ [n]) := by
  rw [tD_eq, List.map_append]
  rfl
theorem ok_law_subsets {f : Addr} {fd : FuncData} (F : Fun K "_law_subsets" "_law_subsets" s_law_subsets f fd) (T : Txt mg) : FnOk P w K mg base CX0 1 f fd ["_law_size"] (Fresh K p_law_subsets) := by
  refine fresh_ok F sc_law_subsets (fun ds d h => by obtain ⟨_, _, rfl, _⟩ := h; rfl) (by decide) fun cdv A outer s H E hr => ?_
  refine ⟨_, (pss_cons (ps_set (i := 1) sc_law_subsets.nd rfl (Or.inl rfl) (pe_lst (pa_cons (pe_tup pa_nil) pa_nil)))
    (pss_cons (ps_for PassesOwn.never rfl (pi_range1 (by rfl) T.range (pa_cons (pv 0) pa_nil)) (pg_name (i := 2) sc_law_subsets.nd rfl (Or.inr rfl))
    (pss_one (ps_set (i := 1) sc_law_subsets.nd rfl (Or.inl rfl) (pe_op op_cat (pv 1) (pe_lc (own := [("_law_those", 3)]) (g := gName 3) rfl sc_law_subsets.nd (pi_list (pv 1)) (blkOk_by (N := N_law_subsets) (sc := defScope s_law_subsets) (by decide +kernel)) (fun _ _ _ _ _ => pg_name (i := 3) sc_law_subsets.nd rfl (Or.inl rfl)) (fun _ _ _ _ _ => pts_nil) (fun _ _ _ _ _ => (pe_op (r := rCatA K) op_catA (pv 3) (pe_tup (pa_cons (pv 2) pa_nil)))))))))
    (pss_one (ps_ret (pv 1))))), ?_⟩
  rintro ds d ⟨n, hn, rfl, rfl⟩ De o
  refine sd_seq (sd_asgO (ef_lst (ea_cons (ep_tup ea_nil) ea_nil)) rfl fun p0 => sd_go ?_)
  refine sd_seq (sd_forRW (fun i E => ∃ p, E = [.val (iD n), .own p ((KM.subsets i).map tD), .no, .no]) (ea_cons (ep_var rfl) ea_nil) (by omega) ⟨p0, rfl⟩ ?_ ?_)
  · rintro i E hi ⟨p, rfl⟩
    have hl : (KM.subsets i).length ≤ 4096 := by
      rw [KM.subsets_len]
      have : 2 ^ i ≤ 2 ^ 12 := Nat.pow_le_pow_right (by omega) (by omega)
      omega
    refine sd_asgO (ef_cat (el_own rfl) (el_new (ef_lcL1 (c := tD) (ts := KM.subsets i) (fun s => tD (s ++ [i])) (ep_own rfl) (fun _ _ => tD_im _) (by omega) (fun s hs => ?_) (fun _ _ => tD_im _))) (by rw [List.length_map, List.length_map]; omega)) ?_ fun q => sd_lw ⟨q, rfl⟩ ?_
    · have hsl : s.length ≤ 12 := by
        obtain ⟨h1, h2⟩ := (KM.subsets_mem i s).mp hs
        have : s.length ≤ (List.range 12).length := by
          have hn : s.Nodup := h1.imp fun h => Nat.ne_of_lt h
          exact hn.length_le_of_subset fun x hx => List.mem_range.mpr (by have := h2 x hx; omega)
        simpa using this
      refine ep_is (ep_op (ep_var (tD_at rfl)) (ep_tup (ea_cons (ep_var rfl) ea_nil)) (r2_catA (by rw [List.length_map]; simp; omega))) (tD_app s i)
    · exact imAll_append (imAll_tD _) (imAll_map (fun _ => tD_im _) _)
    · show LeE [_, _, _, _] [_, _, _, _]
      rw [KM.subsets_succ, List.map_append, List.map_map]
      exact .eq (.eq (.no (.no .nil)))
  · rintro E ⟨p, rfl⟩
    exact sd_go (sd_retO rfl o.rt)
end
end Y
set_option Elab.async false
set_option linter.all false
set_option autoImplicit false
set_option maxRecDepth 100000
set_option maxHeartbeats 4000000
namespace Y
open PySem L2
theorem sub_len {n : Nat} {s : List Nat} (hn : n ≤ 12) (hs : s ∈ KM.subsets n) : s.length ≤ 12 := by
  obtain ⟨h1, h2⟩ := (KM.subsets_mem n s).mp hs
  have hd : s.Nodup := h1.imp fun h => Nat.ne_of_lt h
  have : s.length ≤ (List.range 12).length := hd.length_le_of_subset fun x hx => List.mem_range.mpr (by have := h2 x hx; omega)
  simpa using this
theorem leastL1_len (ls : List (List Nat)) (k : List (List Nat)) (m : List Nat) : (KM.leastL1 ls k m).length ≤ k.length + 1 := by
  unfold KM.leastL1
  split
  · omega
  · split <;> simp
theorem ef_is {K : PySem.W.Frag} {B : List Addr} {H0 : Hp} {Z : Hp → Prop} {E : List Slot} {te : TE} {l m : List D} (h : EF K B H0 Z te E l) (e : l = m) : EF K B H0 Z te E m := e ▸ h
section
variable {P : Program} {w : World} {K : PySem.W.Frag} {mg : Str → Option Value} {base : Heap}
/-- lots of the law: few, short, small -/
structure LL (ls : List (List Nat)) : Prop where
  len : ls.length < 1000
  sm : ∀ l ∈ ls, Sm l
theorem units1 {A : Around} {k : Nat} (hr : Room k A) : A.units + 65 < cLine := by have := hr.un; omega
/-! least -/
abbrev s_law_least : Stmt := topS 49
abbrev N_law_least : List Str := ["_law_lots", "_law_kept", "_law_lot", "_law_other"]
theorem sc_law_least : FnScope N_law_least ["_law_lots"] (defScope s_law_least) := ⟨rfl, rfl, rfl, by decide +kernel, rfl, by decide +kernel, by decide +kernel⟩
def p_law_least (ds : List D) (l : List D) : Prop := ∃ ls : List (List Nat), LL ls ∧ (∀ l ∈ ls, l ≠ []) ∧ ds = [lsD ls] ∧ l = (KM.leastL ls).map tD
theorem ok_law_least {f : Addr} {fd : FuncData} (F : Fun K "_law_least" "_law_least" s_law_least f fd) (T : Txt mg) (c_law_inside : Cl P w K mg base 1 "_law_inside" (Pure K p_law_inside)) : FnOk P w K mg base CX0 2 f fd ["_law_lots"] (Fresh K p_law_least) := by
  refine fresh_ok F sc_law_least (fun ds d h => by obtain ⟨_, _, _, rfl, _⟩ := h; rfl) (by decide) fun cdv A outer s H E hr => ?_
  have hu := hr.units
  have hu1 := units1 hr
  refine ⟨_, (pss_cons (ps_set (i := 1) sc_law_least.nd rfl (Or.inl rfl) (pe_lst pa_nil))
    (pss_cons (ps_for PassesOwn.never rfl (pi_list (pv 0)) (pg_name (i := 2) sc_law_least.nd rfl (Or.inr rfl))
    (pss_one (ps_if (pt_cmpR (r := rNotInD K) (op_notInD hu1) (pv 2) (pv 1) rfl) (pss_one (ps_if (pt_cmpR op_eq (pe_callB (r := rLen K) call_lenY (by rfl) T.len PySem.boot_len (pa_cons (pe_lc (own := [("_law_other", 3)]) (g := gName 3) rfl sc_law_least.nd (pi_list (pv 0)) (blkOk_by (N := N_law_least) (sc := defScope s_law_least) (by decide +kernel)) (fun _ _ _ _ _ => pg_name (i := 3) sc_law_least.nd rfl (Or.inl rfl)) (fun _ _ _ _ _ => (pts_one (pw_and (pt_cmpR (r := rNeD K) (op_neD hu) (pv 3) (pv 2) (nomark _)) (pw_and1 (pt_val (pe_cl c_law_inside hr (by decide) (by rfl) (pa_cons (pv 3) (pa_cons (pv 2) pa_nil)))))).pt)) (fun _ _ _ _ _ => (pv 3))) pa_nil)) pe_int (nomark _)) (pss_one (ps_expr (pe_bm PySem.F.plainAttrs_list PySem.F.slot_list_append PySem.F.type_list_append mt_append (pv 1) (pa_cons (pv 2) pa_nil)))) pss_nil)) pss_nil)))
    (pss_one (ps_ret (pe_callB (r := rSortY K) (cr_sortY hu) (by rfl) T.sorted (by decide +kernel) (pa_cons (pv 1) pa_nil)))))), ?_⟩
  rintro ds d ⟨ls, hL, hne, rfl, rfl⟩ De o
  have hz := hL.len
  refine sd_seq (sd_asgO (ef_lst ea_nil) rfl fun p => sd_go ?_)
  have hl : ∀ i, ((ls.take i).foldl (KM.leastL1 ls) []).length < 1000 := fun i => by
    have h1 := fold_len (KM.leastL1 ls) 1 (leastL1_len ls) (ls.take i) []
    have h2 : (ls.take i).length ≤ ls.length := by rw [List.length_take]; omega
    rw [List.length_nil] at h1
    omega
  have hsub : ∀ i, ∀ x ∈ (ls.take i).foldl (KM.leastL1 ls) [], x ∈ ls := fun i => by
    have key : ∀ (r k : List (List Nat)), (∀ x ∈ k, x ∈ ls) → (∀ x ∈ r, x ∈ ls) → ∀ x ∈ r.foldl (KM.leastL1 ls) k, x ∈ ls := by
      intro r
      induction r with
      | nil => intro k hk _; exact hk
      | cons a r ih =>
        intro k hk hr'
        refine ih _ (fun x hx => ?_) fun x hx => hr' x (List.mem_cons_of_mem _ hx)
        unfold KM.leastL1 at hx
        split at hx
        · exact hk x hx
        · split at hx
          · rcases List.mem_append.mp hx with h | h
            · exact hk x h
            · have : x = a := by simpa using h
              rw [this]; exact hr' a List.mem_cons_self
          · exact hk x hx
    exact key _ [] (by simp) fun x hx => List.mem_of_mem_take hx
  refine sd_seq (sd_forL (c := tD) (ts := ls) (ec_var rfl) (fun i => [.val (lsD ls), .own p (((ls.take i).foldl (KM.leastL1 ls) []).map tD), .no, .no]) rfl (fun Z' i lot hlot => ?_) (sd_go ?_))
  · rw [KM.fold_take _ _ hlot]
    have hli := hl i
    generalize (ls.take i).foldl (KM.leastL1 ls) [] = kept at hli
    refine sd_if (et_test (ep_op (ep_var rfl) (ep_own rfl) (r2_ninD (b := !decide (lot ∈ kept)) (tD_cmp lot) (lsD_cmp kept).1 (by rw [mem_tD]; simp)))) (fun h => ?_) (fun h => ?_)
    · have hn : lot ∉ kept := by simpa using h
      refine sd_if (et_test (ep_op (ep_cb (ea_cons (EF.p (ef_lcL (c := tD) (ts := ls) (fun o => !decide (o = lot) && KM.inside o lot) tD (ep_var rfl) (fun _ _ => tD_im _) (by omega)
        (fun o' ho => et_and (et_test (ep_op (ep_var rfl) (ep_var rfl) (r2_neD (b := !decide (o' = lot)) (tD_cmp _) (tD_cmp _) (by rw [tD_inj]; simp)))) fun _ => et_B (ep_call (ea_cons (ep_var rfl) (ea_cons (ep_var rfl) ea_nil)) ⟨o', lot, (hL.sm o' ho).len, rfl, rfl⟩)) (fun _ _ _ => ep_var rfl) (fun _ _ _ => tD_im _))) ea_nil) rc_lenLn) ep_n0 r2_eqN)) (fun h2 => ?_) (fun h2 => ?_)
      · refine sd_app rfl (ep_var rfl) (tD_im _) (by rw [List.length_map]; omega) (sd_leF ?_)
        show LeE [_, _, _, _] [_, _, _, _]
        unfold KM.leastL1
        rw [if_neg hn, if_pos h2, List.map_append]
        exact .eq (.eq (.no (.no .nil)))
      · refine sd_leF ?_
        show LeE [_, _, _, _] [_, _, _, _]
        unfold KM.leastL1
        rw [if_neg hn, if_neg (by rw [h2]; decide)]
        exact .eq (.eq (.no (.no .nil)))
    · have hn : lot ∈ kept := by simpa using h
      refine sd_leF ?_
      show LeE [_, _, _, _] [_, _, _, _]
      unfold KM.leastL1
      rw [if_pos hn]
      exact .eq (.eq (.no (.no .nil)))
  · have hsl := hsub ls.length
    rw [List.take_length] at hsl ⊢
    exact sd_retF (ef_cb (ea_cons (ep_own rfl) ea_nil) (rf_sortY (.inr fun t ht => hne t (hsl t ht)))) o.rt
/-! holds -/
abbrev s_law_holds : Stmt := topS 50
abbrev N_law_holds : List Str := ["_law_lots", "_law_those", "_law_lot"]
theorem sc_law_holds : FnScope N_law_holds ["_law_lots", "_law_those"] (defScope s_law_holds) := ⟨rfl, rfl, rfl, by decide +kernel, rfl, by decide +kernel, by decide +kernel⟩
def p_law_holds (ds : List D) (d : D) : Prop := ∃ (ls : List (List Nat)) (s : List Nat), LL ls ∧ ds = [lsD ls, tD s] ∧ d = .bl (KM.holds ls s)
theorem ok_law_holds {f : Addr} {fd : FuncData} (F : Fun K "_law_holds" "_law_holds" s_law_holds f fd) (T : Txt mg) (c_law_inside : Cl P w K mg base 1 "_law_inside" (Pure K p_law_inside)) : FnOk P w K mg base CX0 2 f fd ["_law_lots", "_law_those"] (Pure K p_law_holds) := by
  refine pure_ok F sc_law_holds (fun ds d h => by obtain ⟨_, _, _, rfl, _⟩ := h; rfl) (by decide) fun cdv A outer s H E hr => ?_
  refine ⟨_, (pss_cons (ps_for PassesOwn.never rfl (pi_list (pv 0)) (pg_name (i := 2) sc_law_holds.nd rfl (Or.inl rfl))
    (pss_one (ps_if (pt_val (pe_cl c_law_inside hr (by decide) (by rfl) (pa_cons (pv 2) (pa_cons (pv 1) pa_nil)))) (pss_one (ps_ret pe_bl)) pss_nil)))
    (pss_one (ps_ret pe_bl))), ?_⟩
  rintro ds d ⟨ls, t, hL, rfl, rfl⟩ De o
  refine sd_seq (sd_forLP (c := tD) (ts := ls) (fun i => ∀ l ∈ ls.take i, KM.inside l t = false) (ec_var rfl) (fun _ => [.val (lsD ls), .val (tD t), .no]) rfl (by simp) (fun Z' i lot hlot hp => ?_) (fun hp => sd_go ?_))
  · refine sd_if (et_B (ep_call (ea_cons (ep_var rfl) (ea_cons (ep_var rfl) ea_nil)) ⟨lot, t, (hL.sm lot (List.mem_of_getElem? hlot)).len, rfl, rfl⟩)) (fun h => ?_) (fun h => ?_)
    · have e : KM.holds ls t = true := List.any_eq_true.mpr ⟨lot, List.mem_of_getElem? hlot, h⟩
      rw [e] at o
      exact sd_ret ep_bl o.rt
    · refine sd_lp (fun l hl => ?_) ?_
      · rw [take_step hlot] at hl
        rcases List.mem_append.mp hl with hl | hl
        · exact hp l hl
        · have : l = lot := by simpa using hl
          rw [this]; exact h
      · exact .eq (.eq (.no .nil))
  · have e : KM.holds ls t = false := by
      rw [List.take_length] at hp
      rw [← Bool.not_eq_true]
      intro z
      obtain ⟨l, h1, h2⟩ := List.any_eq_true.mp z
      rw [hp l h1] at h2
      cases h2
    rw [e] at o
    exact sd_ret ep_bl o.rt
/-! meets -/
abbrev s_law_meets : Stmt := topS 51
abbrev N_law_meets : List Str := ["_law_lots", "_law_those", "_law_lot"]
theorem sc_law_meets : FnScope N_law_meets ["_law_lots", "_law_those"] (defScope s_law_meets) := ⟨rfl, rfl, rfl, by decide +kernel, rfl, by decide +kernel, by decide +kernel⟩
def p_law_meets (ds : List D) (d : D) : Prop := ∃ (ls : List (List Nat)) (s : List Nat), LL ls ∧ ds = [lsD ls, tD s] ∧ d = .bl (KM.meets ls s)
theorem ok_law_meets {f : Addr} {fd : FuncData} (F : Fun K "_law_meets" "_law_meets" s_law_meets f fd) (T : Txt mg) (c_law_common : Cl P w K mg base 1 "_law_common" (Pure K p_law_common)) : FnOk P w K mg base CX0 2 f fd ["_law_lots", "_law_those"] (Pure K p_law_meets) := by
  refine pure_ok F sc_law_meets (fun ds d h => by obtain ⟨_, _, _, rfl, _⟩ := h; rfl) (by decide) fun cdv A outer s H E hr => ?_
  refine ⟨_, (pss_cons (ps_for PassesOwn.never rfl (pi_list (pv 0)) (pg_name (i := 2) sc_law_meets.nd rfl (Or.inl rfl))
    (pss_one (ps_if (pt_cmpR op_eq (pe_cl c_law_common hr (by decide) (by rfl) (pa_cons (pv 2) (pa_cons (pv 1) pa_nil))) pe_int (nomark _)) (pss_one (ps_ret pe_bl)) pss_nil)))
    (pss_one (ps_ret pe_bl))), ?_⟩
  rintro ds d ⟨ls, t, hL, rfl, rfl⟩ De o
  refine sd_seq (sd_forLP (c := tD) (ts := ls) (fun i => ∀ l ∈ ls.take i, KM.common l t ≠ 0) (ec_var rfl) (fun _ => [.val (lsD ls), .val (tD t), .no]) rfl (by simp) (fun Z' i lot hlot hp => ?_) (fun hp => sd_go ?_))
  · refine sd_if (et_test (ep_op (ep_call (ea_cons (ep_var rfl) (ea_cons (ep_var rfl) ea_nil)) ⟨lot, t, (hL.sm lot (List.mem_of_getElem? hlot)).len, rfl, rfl⟩) ep_n0 r2_eqN)) (fun h => ?_) (fun h => ?_)
    · have e : KM.meets ls t = false := by
        rw [← Bool.not_eq_true]
        intro z
        have := List.all_eq_true.mp z lot (List.mem_of_getElem? hlot)
        simp at h this
        exact this h
      rw [e] at o
      exact sd_ret ep_bl o.rt
    · refine sd_lp (fun l hl => ?_) ?_
      · rw [take_step hlot] at hl
        rcases List.mem_append.mp hl with hl | hl
        · exact hp l hl
        · have : l = lot := by simpa using hl
          rw [this]; simpa using h
      · exact .eq (.eq (.no .nil))
  · have e : KM.meets ls t = true := by
      rw [List.take_length] at hp
      exact List.all_eq_true.mpr fun l hl => by simpa using hp l hl
    rw [e] at o
    exact sd_ret ep_bl o.rt
/-! blocker -/
abbrev s_law_blocker : Stmt := topS 52
abbrev N_law_blocker : List Str := ["_law_size", "_law_lots", "_law_found", "_law_those", "_law_spare", "_law_thing", "_law_other"]
theorem sc_law_blocker : FnScope N_law_blocker ["_law_size", "_law_lots"] (defScope s_law_blocker) := ⟨rfl, rfl, rfl, by decide +kernel, rfl, by decide +kernel, by decide +kernel⟩
def p_law_blocker (ds : List D) (l : List D) : Prop := ∃ (n : Nat) (ls : List (List Nat)), n ≤ 12 ∧ LL ls ∧ ls ≠ [] ∧ ds = [iD n, lsD ls] ∧ l = (KM.blocker n ls).map tD
theorem ok_law_blocker {f : Addr} {fd : FuncData} (F : Fun K "_law_blocker" "_law_blocker" s_law_blocker f fd) (T : Txt mg) (c_law_subsets : Cl P w K mg base 1 "_law_subsets" (Fresh K p_law_subsets)) (c_law_meets : Cl P w K mg base 2 "_law_meets" (Pure K p_law_meets)) : FnOk P w K mg base CX0 3 f fd ["_law_size", "_law_lots"] (Fresh K p_law_blocker) := by
  refine fresh_ok F sc_law_blocker (fun ds d h => by obtain ⟨_, _, _, _, _, rfl, _⟩ := h; rfl) (by decide) fun cdv A outer s H E hr => ?_
  have hu := hr.units
  have hu1 := units1 hr
  refine ⟨_, (pss_cons (ps_set (i := 2) sc_law_blocker.nd rfl (Or.inl rfl) (pe_lst pa_nil))
    (pss_cons (ps_for PassesOwn.never rfl (pi_list (pe_cl c_law_subsets hr (by decide) (by rfl) (pa_cons (pv 0) pa_nil))) (pg_name (i := 3) sc_law_blocker.nd rfl (Or.inl rfl))
    (pss_one (ps_if (pt_val (pe_cl c_law_meets hr (by decide) (by rfl) (pa_cons (pv 1) (pa_cons (pv 3) pa_nil)))) (pss_cons (ps_set (i := 4) sc_law_blocker.nd rfl (Or.inl rfl) pe_int)
    (pss_cons (ps_for PassesOwn.never rfl (pi_tup (pv 3)) (pg_name (i := 5) sc_law_blocker.nd rfl (Or.inr rfl))
    (pss_one (ps_if (pt_val (pe_cl c_law_meets hr (by decide) (by rfl) (pa_cons (pv 1) (pa_cons (pe_callTy (r := rTupOf K) call_tupY (by rfl) T.tuple (by decide +kernel) (pa_cons (pe_lc (own := [("_law_other", 6)]) (g := gName 6) rfl sc_law_blocker.nd (pi_tup (pv 3)) (blkOk_by (N := N_law_blocker) (sc := defScope s_law_blocker) (by decide +kernel)) (fun _ _ _ _ _ => pg_name (i := 6) sc_law_blocker.nd rfl (Or.inl rfl)) (fun _ _ _ _ _ => (pts_one (pt_cmpR op_ne (pv 6) (pv 5) (nomark _)))) (fun _ _ _ _ _ => (pv 6))) pa_nil)) pa_nil)))) (pss_one (ps_set (i := 4) sc_law_blocker.nd rfl (Or.inl rfl) (pe_op op_add (pv 4) pe_int))) pss_nil)))
    (pss_one (ps_if (pt_cmpR op_eq (pv 4) pe_int (nomark _)) (pss_one (ps_expr (pe_bm PySem.F.plainAttrs_list PySem.F.slot_list_append PySem.F.type_list_append mt_append (pv 2) (pa_cons (pv 3) pa_nil)))) pss_nil)))) pss_nil)))
    (pss_one (ps_ret (pe_callB (r := rSortY K) (cr_sortY hu) (by rfl) T.sorted (by decide +kernel) (pa_cons (pv 2) pa_nil)))))), ?_⟩
  rintro ds d ⟨n, ls, hn, hL, hls, rfl, rfl⟩ De o
  refine sd_seq (sd_asgO (ef_lst ea_nil) rfl fun p => sd_go ?_)
  have h4 : (KM.subsets n).length ≤ 4096 := by
    rw [KM.subsets_len]
    have : 2 ^ n ≤ 2 ^ 12 := Nat.pow_le_pow_right (by omega) (by omega)
    omega
  have hlen : ∀ i, (((KM.subsets n).take i).filter (KM.isBlk ls)).length ≤ 4096 := fun i => by
    have h1 := List.length_filter_le (KM.isBlk ls) ((KM.subsets n).take i)
    have h2 : ((KM.subsets n).take i).length ≤ (KM.subsets n).length := by rw [List.length_take]; omega
    omega
  refine sd_seq (sd_forL (c := tD) (ts := KM.subsets n) (ec_new (ef_call (ea_cons (ep_var rfl) ea_nil) ⟨n, hn, rfl, rfl⟩) (imAll_tD _)) (fun i => [.val (iD n), .val (lsD ls), .own p ((((KM.subsets n).take i).filter (KM.isBlk ls)).map tD), .no, .no, .no, .no]) rfl (fun Z' i t ht => ?_) (sd_go ?_))
  · have htl : t.length ≤ 12 := sub_len hn (List.mem_of_getElem? ht)
    have hli := hlen i
    rw [take_step ht, List.filter_append, List.map_append]
    generalize ((KM.subsets n).take i).filter (KM.isBlk ls) = acc at hli
    refine sd_if (et_B (ep_call (ea_cons (ep_var rfl) (ea_cons (ep_var rfl) ea_nil)) ⟨ls, t, hL, rfl, rfl⟩)) (fun hm => ?_) (fun hm => ?_)
    · refine sd_seq (sd_asg ep_n0 rfl (sd_go ?_))
      refine sd_seq (sd_forT (c := iD) (ts := t) (ec_im (ep_var (tD_at rfl)) (by rw [← tD_eq]; exact tD_im _)) (fun j => [.val (iD n), .val (lsD ls), .own p (acc.map tD), .val (tD t), .val (iD ((t.take j).filter fun x => KM.meets ls (t.filter fun o => o != x)).length), .no, .no]) rfl (fun Z2 j x hx => ?_) (sd_go ?_))
      · rw [take_step hx, List.filter_append, List.length_append]
        refine sd_if (et_B (ep_call (ea_cons (ep_var rfl) (ea_cons (ep_is (ep_cb (ea_cons (EF.p (ef_lcT (c := iD) (ts := t) (fun o => o != x) iD (ep_var (tD_at rfl)) (fun _ _ => rfl) (by omega) (fun o' _ => et_test (ep_op (ep_var rfl) (ep_var rfl) r2_neN)) (fun _ _ _ => ep_var rfl) (fun _ _ _ => rfl))) ea_nil) rc_tupleL) (tD_eq _).symm) ea_nil)) ⟨ls, t.filter fun o => o != x, hL, rfl, rfl⟩)) (fun h => ?_) (fun h => ?_)
        · refine sd_asg (ep_op (ep_var rfl) ep_n1 r2_int) rfl (sd_leF ?_)
          show LeE [_, _, _, _, _, _, _] [_, _, _, _, _, _, _]
          have e : ([x].filter fun x => KM.meets ls (t.filter fun o => o != x)).length = 1 := by simp [h]
          rw [e]
          exact .eq (.eq (.eq (.eq (.eq (.no (.no .nil))))))
        · refine sd_leF ?_
          show LeE [_, _, _, _, _, _, _] [_, _, _, _, _, _, _]
          have e : ([x].filter fun x => KM.meets ls (t.filter fun o => o != x)).length = 0 := by simp [h]
          rw [e]
          exact .eq (.eq (.eq (.eq (.eq (.no (.no .nil))))))
      · rw [List.take_length]
        refine sd_if (et_test (ep_op (ep_var rfl) ep_n0 r2_eqN)) (fun h => ?_) (fun h => ?_)
        · refine sd_app rfl (ep_var rfl) (tD_im _) (by rw [List.length_map]; omega) (sd_leF ?_)
          show LeE [_, _, _, _, _, _, _] [_, _, _, _, _, _, _]
          have e : [t].filter (KM.isBlk ls) = [t] := by
            have : KM.isBlk ls t = true := by
              show (KM.meets ls t && KM.spare ls t == 0) = true
              rw [hm]; exact h
            simp [this]
          rw [e]
          exact .eq (.eq (.eq (.no (.no (.no (.no .nil))))))
        · refine sd_leF ?_
          show LeE [_, _, _, _, _, _, _] [_, _, _, _, _, _, _]
          have e : [t].filter (KM.isBlk ls) = [] := by
            have : KM.isBlk ls t = false := by
              show (KM.meets ls t && KM.spare ls t == 0) = false
              rw [hm]; exact h
            simp [this]
          rw [e, List.map_nil, List.append_nil]
          exact .eq (.eq (.eq (.no (.no (.no (.no .nil))))))
    · refine sd_leF ?_
      show LeE [_, _, _, _, _, _, _] [_, _, _, _, _, _, _]
      have e : [t].filter (KM.isBlk ls) = [] := by
        have : KM.isBlk ls t = false := by
          show (KM.meets ls t && KM.spare ls t == 0) = false
          rw [hm]; rfl
        simp [this]
      rw [e, List.map_nil, List.append_nil]
      exact .eq (.eq (.eq (.no (.no (.no (.no .nil))))))
  · rw [List.take_length]
    refine sd_retF (ef_cb (ea_cons (ep_own rfl) ea_nil) (rf_sortY (.inr fun t ht => ?_))) o.rt
    intro e
    subst e
    have h := (List.mem_filter.mp ht).2
    have hm : KM.meets ls [] = true := by
      have : (KM.meets ls [] && KM.spare ls [] == 0) = true := h
      simp at this
      exact this.1
    cases ls with
    | nil => exact hls rfl
    | cons a r =>
      obtain ⟨x, _, hx⟩ := KM.meets_iff.mp hm a List.mem_cons_self
      cases hx
/-! sized -/
abbrev s_law_sized : Stmt := topS 53
abbrev N_law_sized : List Str := ["_law_size", "_law_number", "_law_those"]
theorem sc_law_sized : FnScope N_law_sized ["_law_size", "_law_number"] (defScope s_law_sized) := ⟨rfl, rfl, rfl, by decide +kernel, rfl, by decide +kernel, by decide +kernel⟩
def p_law_sized (ds : List D) (l : List D) : Prop := ∃ n k : Nat, n ≤ 12 ∧ 1 ≤ k ∧ ds = [iD n, iD k] ∧ l = (KM.sized n k).map tD
theorem ok_law_sized {f : Addr} {fd : FuncData} (F : Fun K "_law_sized" "_law_sized" s_law_sized f fd) (T : Txt mg) (c_law_subsets : Cl P w K mg base 1 "_law_subsets" (Fresh K p_law_subsets)) : FnOk P w K mg base CX0 2 f fd ["_law_size", "_law_number"] (Fresh K p_law_sized) := by
  refine fresh_ok F sc_law_sized (fun ds d h => by obtain ⟨_, _, _, _, rfl, _⟩ := h; rfl) (by decide) fun cdv A outer s H E hr => ?_
  have hu := hr.units
  have hu1 := units1 hr
  refine ⟨_, (pss_one (ps_ret (pe_callB (r := rSortY K) (cr_sortY hu) (by rfl) T.sorted (by decide +kernel) (pa_cons (pe_lc (own := [("_law_those", 2)]) (g := gName 2) rfl sc_law_sized.nd (pi_list (pe_cl c_law_subsets hr (by decide) (by rfl) (pa_cons (pv 0) pa_nil))) (blkOk_by (N := N_law_sized) (sc := defScope s_law_sized) (by decide +kernel)) (fun _ _ _ _ _ => pg_name (i := 2) sc_law_sized.nd rfl (Or.inl rfl)) (fun _ _ _ _ _ => (pts_one (pt_cmpR op_eq (pe_callB (r := rLen K) call_lenY (by rfl) T.len PySem.boot_len (pa_cons (pv 2) pa_nil)) (pv 1) (nomark _)))) (fun _ _ _ _ _ => (pv 2))) pa_nil)))), ?_⟩
  rintro ds d ⟨n, k, hn, hk, rfl, rfl⟩ De o
  have h4 : (KM.subsets n).length ≤ 4096 := by
    rw [KM.subsets_len]
    have : 2 ^ n ≤ 2 ^ 12 := Nat.pow_le_pow_right (by omega) (by omega)
    omega
  refine sd_retF (ef_cb (ea_cons (EF.p (ef_lcL (c := tD) (ts := KM.subsets n) (fun s => s.length == k) tD (EF.p (ef_call (ea_cons (ep_var rfl) ea_nil) ⟨n, hn, rfl, rfl⟩)) (fun _ _ => tD_im _) (by omega)
    (fun s _ => et_test (ep_op (ep_cb (ea_cons (ep_var (tD_at rfl)) ea_nil) rc_lenTn) (ep_var rfl) r2_eqN)) (fun _ _ _ => ep_var rfl) (fun _ _ _ => tD_im _))) ea_nil) (rf_sortY (.inr fun t ht => ?_))) o.rt
  intro e
  subst e
  have h := (List.mem_filter.mp ht).2
  simp at h
  omega
/-! fan -/
abbrev s_law_fan : Stmt := topS 54
abbrev N_law_fan : List Str := ["_law_size", "_law_lots", "_law_thing"]
theorem sc_law_fan : FnScope N_law_fan ["_law_size"] (defScope s_law_fan) := ⟨rfl, rfl, rfl, by decide +kernel, rfl, by decide +kernel, by decide +kernel⟩
def p_law_fan (ds : List D) (l : List D) : Prop := ∃ n : Nat, 3 ≤ n ∧ n ≤ 60 ∧ ds = [iD n] ∧ l = (KM.fanL n).map tD
theorem ok_law_fan {f : Addr} {fd : FuncData} (F : Fun K "_law_fan" "_law_fan" s_law_fan f fd) (T : Txt mg) : FnOk P w K mg base CX0 1 f fd ["_law_size"] (Fresh K p_law_fan) := by
  refine fresh_ok F sc_law_fan (fun ds d h => by obtain ⟨_, _, _, rfl, _⟩ := h; rfl) (by decide) fun cdv A outer s H E hr => ?_
  have hu := hr.units
  have hu1 := units1 hr
  refine ⟨_, (pss_cons (ps_setLc (i := 1) (own := [("_law_thing", 2)]) (g := gName 2) rfl sc_law_fan.nd rfl rfl (sw_true rfl rfl rfl (by decide +kernel)) (pi_range2 (by rfl) T.range (pa_cons pe_int (pa_cons (pv 0) pa_nil))) (blkOk_by (N := N_law_fan) (sc := defScope s_law_fan) (by decide +kernel)) (fun _ _ _ _ _ => pg_name (i := 2) sc_law_fan.nd rfl (Or.inl rfl)) (fun _ _ _ _ _ => pts_nil) (fun _ _ _ _ _ => (pe_tup (pa_cons pe_int (pa_cons (pv 2) pa_nil)))))
    (pss_one (ps_ret (pe_callB (r := rSortY K) (cr_sortY hu) (by rfl) T.sorted (by decide +kernel) (pa_cons (pe_op op_cat (pv 1) (pe_lst (pa_cons (pe_tupRg rfl (by rfl) T.tuple (prg_2 (by rfl) T.range pe_int (pv 0))) pa_nil))) pa_nil))))), ?_⟩
  rintro ds d ⟨n, h3, hn, rfl, rfl⟩ De o
  have e1 : (((n : Int) - 1).toNat) = n - 1 := by omega
  refine sd_seq (sd_asgO (ef_lcR21 (fun i => tD [0, i + 1]) (ea_cons ep_n1 (ea_cons (ep_var rfl) ea_nil)) (by omega) (by omega) (fun i hi => ep_is (ep_tup (ea_cons ep_n0 (ea_cons (ep_var rfl) ea_nil))) ?_) (fun _ _ => tD_im _)) (imAll_map (fun _ => tD_im _) _) fun p => sd_go ?_)
  · rw [tD_eq]
    show D.tup [.int 0, .int (1 + (i : Int))] = D.tup [.int 0, .int ((i + 1 : Nat) : Int)]
    have : (1 + (i : Int)) = ((i + 1 : Nat) : Int) := by omega
    rw [this]
  · have e2 : ((List.range (n - 1)).map fun i => [0, i + 1]).map tD = (List.range (n - 1)).map fun i => tD [0, i + 1] := by rw [List.map_map]; rfl
    have e3 : D.tup ((List.range (((n : Int) - 1).toNat)).map fun (i : Nat) => D.int (1 + (i : Int))) = tD ((List.range (n - 1)).map fun i => i + 1) := by
      rw [tD_eq, e1, List.map_map]
      congr 1
      refine List.map_congr_left fun i _ => ?_
      show D.int (1 + (i : Int)) = D.int ((i + 1 : Nat) : Int)
      rw [show (1 + (i : Int)) = ((i + 1 : Nat) : Int) by omega]
    have hb := ep_tupRg2 (K := K) (B := []) (H0 := H) (Z := fun _ => True) (E := (entry N_law_fan [iD n]).set 1 (.own p ((List.range (((n : Int) - 1).toNat)).map fun i => tD [0, i + 1]))) (ta := tC (.int 1)) (tb := tVar 0) (lo := 1) (hi := n) ep_n1 (ep_var rfl) (by omega)
    have hc := ef_cat (K := K) (B := []) (H0 := H) (Z := fun _ => True) (E := (entry N_law_fan [iD n]).set 1 (.own p ((List.range (((n : Int) - 1).toNat)).map fun i => tD [0, i + 1]))) (ta := tVar 1) (el_own rfl) (el_new (ef_lst (ea_cons (ep_is hb e3) ea_nil))) (by rw [List.length_map, List.length_range]; simp; omega)
    have hs := rf_sortY (K := K) (ts := (List.range (n - 1)).map (fun i => [0, i + 1]) ++ [(List.range (n - 1)).map fun i => i + 1]) (.inr fun t ht => ?_)
    · rw [lsD, List.map_append, e2] at hs
      exact sd_retF (ef_cb (ea_cons (EF.p (ef_is hc (by rw [e1]; rfl))) ea_nil) hs) o.rt
    · rcases List.mem_append.mp ht with h | h
      · obtain ⟨i, _, rfl⟩ := List.mem_map.mp h
        simp
      · have : t = (List.range (n - 1)).map fun i => i + 1 := by simpa using h
        rw [this]
        intro z
        have := congrArg List.length z
        simp at this
        omega
/-! ring -/
abbrev s_law_ring : Stmt := topS 55
abbrev N_law_ring : List Str := ["_law_size", "_law_lots", "_law_thing"]
theorem sc_law_ring : FnScope N_law_ring ["_law_size"] (defScope s_law_ring) := ⟨rfl, rfl, rfl, by decide +kernel, rfl, by decide +kernel, by decide +kernel⟩
def p_law_ring (ds : List D) (l : List D) : Prop := ∃ n : Nat, 3 ≤ n ∧ n ≤ 60 ∧ ds = [iD n] ∧ l = (KM.ringL n).map tD
theorem ok_law_ring {f : Addr} {fd : FuncData} (F : Fun K "_law_ring" "_law_ring" s_law_ring f fd) (T : Txt mg) : FnOk P w K mg base CX0 1 f fd ["_law_size"] (Fresh K p_law_ring) := by
  refine fresh_ok F sc_law_ring (fun ds d h => by obtain ⟨_, _, _, rfl, _⟩ := h; rfl) (by decide) fun cdv A outer s H E hr => ?_
  have hu := hr.units
  have hu1 := units1 hr
  refine ⟨_, (pss_cons (ps_setLc (i := 1) (own := [("_law_thing", 2)]) (g := gName 2) rfl sc_law_ring.nd rfl rfl (sw_true rfl rfl rfl (by decide +kernel)) (pi_range1 (by rfl) T.range (pa_cons (pe_op op_sub (pv 0) pe_int) pa_nil)) (blkOk_by (N := N_law_ring) (sc := defScope s_law_ring) (by decide +kernel)) (fun _ _ _ _ _ => pg_name (i := 2) sc_law_ring.nd rfl (Or.inl rfl)) (fun _ _ _ _ _ => pts_nil) (fun _ _ _ _ _ => (pe_tup (pa_cons (pv 2) (pa_cons (pe_op op_add (pv 2) pe_int) pa_nil)))))
    (pss_one (ps_ret (pe_callB (r := rSortY K) (cr_sortY hu) (by rfl) T.sorted (by decide +kernel) (pa_cons (pe_op op_cat (pv 1) (pe_lst (pa_cons (pe_tup (pa_cons pe_int (pa_cons (pe_op op_sub (pv 0) pe_int) pa_nil))) pa_nil))) pa_nil))))), ?_⟩
  rintro ds d ⟨n, h3, hn, rfl, rfl⟩ De o
  have e1 : (((n : Int) - 1).toNat) = n - 1 := by omega
  refine sd_seq (sd_asgO (ef_lcR1 (fun i => tD [i, i + 1]) (ea_cons (ep_op (ep_var rfl) ep_n1 r2_int) ea_nil) (by omega) (fun i hi => ep_is (ep_tup (ea_cons (ep_var rfl) (ea_cons (ep_op (ep_var rfl) ep_n1 r2_int) ea_nil))) ?_) (fun _ _ => tD_im _)) (imAll_map (fun _ => tD_im _) _) fun p => sd_go ?_)
  · rw [tD_eq]
    rfl
  · have e2 : ((List.range (n - 1)).map fun i => [i, i + 1]).map tD = (List.range (n - 1)).map fun i => tD [i, i + 1] := by rw [List.map_map]; rfl
    have e3 : D.tup [D.int 0, D.int ((n : Int) - 1)] = tD [0, n - 1] := by
      rw [tD_eq]
      show D.tup [.int 0, .int ((n : Int) - 1)] = D.tup [.int 0, .int ((n - 1 : Nat) : Int)]
      have : (n : Int) - 1 = ((n - 1 : Nat) : Int) := by omega
      rw [this]
    have hc := ef_cat (K := K) (B := []) (H0 := H) (Z := fun _ => True) (E := (entry N_law_ring [iD n]).set 1 (.own p ((List.range (((n : Int) - 1).toNat)).map fun i => tD [i, i + 1]))) (ta := tVar 1) (el_own rfl) (el_new (ef_lst (ea_cons (ep_is (ep_tup (ea_cons ep_n0 (ea_cons (ep_op (ep_var (i := 0) rfl) ep_n1 r2_int) ea_nil))) e3) ea_nil))) (by rw [List.length_map, List.length_range]; simp; omega)
    have hs := rf_sortY (K := K) (ts := (List.range (n - 1)).map (fun i => [i, i + 1]) ++ [[0, n - 1]]) (.inr fun t ht => ?_)
    · rw [lsD, List.map_append, e2] at hs
      exact sd_retF (ef_cb (ea_cons (EF.p (ef_is hc (by rw [e1]; rfl))) ea_nil) hs) o.rt
    · rcases List.mem_append.mp ht with h | h
      · obtain ⟨i, _, rfl⟩ := List.mem_map.mp h
        simp
      · have : t = [0, n - 1] := by simpa using h
        rw [this]
        simp
/-! rest -/
abbrev s_law_rest : Stmt := topS 62
abbrev N_law_rest : List Str := ["_law_size", "_law_those", "_law_thing"]
theorem sc_law_rest : FnScope N_law_rest ["_law_size", "_law_those"] (defScope s_law_rest) := ⟨rfl, rfl, rfl, by decide +kernel, rfl, by decide +kernel, by decide +kernel⟩
def p_law_rest (ds : List D) (d : D) : Prop := ∃ (n : Nat) (s : List Nat), n ≤ 60 ∧ ds = [iD n, tD s] ∧ d = tD (KM.rest n s)
theorem ok_law_rest {f : Addr} {fd : FuncData} (F : Fun K "_law_rest" "_law_rest" s_law_rest f fd) (T : Txt mg) : FnOk P w K mg base CX0 1 f fd ["_law_size", "_law_those"] (Pure K p_law_rest) := by
  refine pure_ok F sc_law_rest (fun ds d h => by obtain ⟨_, _, _, rfl, _⟩ := h; rfl) (by decide) fun cdv A outer s H E hr => ?_
  refine ⟨_, (pss_one (ps_ret (pe_callTy (r := rTupOf K) call_tupY (by rfl) T.tuple (by decide +kernel) (pa_cons (pe_lc (own := [("_law_thing", 2)]) (g := gName 2) rfl sc_law_rest.nd (pi_range1 (by rfl) T.range (pa_cons (pv 0) pa_nil)) (blkOk_by (N := N_law_rest) (sc := defScope s_law_rest) (by decide +kernel)) (fun _ _ _ _ _ => pg_name (i := 2) sc_law_rest.nd rfl (Or.inl rfl)) (fun _ _ _ _ _ => (pts_one (pt_cmpR (r := rIn K true) op_notIn_seq (pv 2) (pv 1) rfl))) (fun _ _ _ _ _ => (pv 2))) pa_nil)))), ?_⟩
  rintro ds d ⟨n, t, hn, rfl, rfl⟩ De o
  refine sd_ret (ep_is (ep_cb (ea_cons (EF.p (ef_lcR (fun x => !decide (x ∈ t)) iD (ea_cons (ep_var rfl) ea_nil) (by omega) (fun x _ => et_test (ep_op (ep_var rfl) (ep_var rfl) nin_at)) (fun _ _ _ => ep_var rfl) (fun _ _ _ => rfl))) ea_nil) rc_tupleL) ?_) o.rt
  rw [tD_eq]
  rfl
/-! within -/
abbrev s_law_within : Stmt := topS 64
abbrev N_law_within : List Str := ["_law_those", "_law_wide", "_law_one"]
theorem sc_law_within : FnScope N_law_within ["_law_those", "_law_wide"] (defScope s_law_within) := ⟨rfl, rfl, rfl, by decide +kernel, rfl, by decide +kernel, by decide +kernel⟩
def p_law_within (ds : List D) (d : D) : Prop := ∃ (s : List Nat) (ls : List (List Nat)), s.length < 1000 ∧ ds = [tD s, lsD ls] ∧ d = .bl (KM.within s ls)
theorem ok_law_within {f : Addr} {fd : FuncData} (F : Fun K "_law_within" "_law_within" s_law_within f fd) (T : Txt mg) (c_law_inside : Cl P w K mg base 1 "_law_inside" (Pure K p_law_inside)) : FnOk P w K mg base CX0 2 f fd ["_law_those", "_law_wide"] (Pure K p_law_within) := by
  refine pure_ok F sc_law_within (fun ds d h => by obtain ⟨_, _, _, rfl, _⟩ := h; rfl) (by decide) fun cdv A outer s H E hr => ?_
  refine ⟨_, (pss_cons (ps_for PassesOwn.never rfl (pi_list (pv 1)) (pg_name (i := 2) sc_law_within.nd rfl (Or.inl rfl))
    (pss_one (ps_if (pt_val (pe_cl c_law_inside hr (by decide) (by rfl) (pa_cons (pv 0) (pa_cons (pv 2) pa_nil)))) (pss_one (ps_ret pe_bl)) pss_nil)))
    (pss_one (ps_ret pe_bl))), ?_⟩
  rintro ds d ⟨t, ls, hs, rfl, rfl⟩ De o
  refine sd_seq (sd_forLP (c := tD) (ts := ls) (fun i => ∀ l ∈ ls.take i, KM.inside t l = false) (ec_var rfl) (fun _ => [.val (tD t), .val (lsD ls), .no]) rfl (by simp) (fun Z' i lot hlot hp => ?_) (fun hp => sd_go ?_))
  · refine sd_if (et_B (ep_call (ea_cons (ep_var rfl) (ea_cons (ep_var rfl) ea_nil)) ⟨t, lot, hs, rfl, rfl⟩)) (fun h => ?_) (fun h => ?_)
    · have e : KM.within t ls = true := List.any_eq_true.mpr ⟨lot, List.mem_of_getElem? hlot, h⟩
      rw [e] at o
      exact sd_ret ep_bl o.rt
    · refine sd_lp (fun l hl => ?_) ?_
      · rw [take_step hlot] at hl
        rcases List.mem_append.mp hl with hl | hl
        · exact hp l hl
        · have : l = lot := by simpa using hl
          rw [this]; exact h
      · exact .eq (.eq (.no .nil))
  · have e : KM.within t ls = false := by
      rw [List.take_length] at hp
      rw [← Bool.not_eq_true]
      intro z
      obtain ⟨l, h1, h2⟩ := List.any_eq_true.mp z
      rw [hp l h1] at h2
      cases h2
    rw [e] at o
    exact sd_ret ep_bl o.rt
end
end Y
set_option Elab.async false
set_option linter.all false
set_option autoImplicit false
set_option maxRecDepth 100000
set_option maxHeartbeats 4000000
namespace Y
open PySem L2
/-- the class BadSet -/
structure BadC (P : Program) (K : PySem.W.Frag) (mg : Str → Option Value) (C f : Addr) : Prop where
  c : ExcK K P C f "bad set: place "
  m : mg "BadSet" = some (.ref C)
  s : mg "super" = none
section
variable {P : Program} {w : World} {K : PySem.W.Frag} {mg : Str → Option Value} {base : Heap}
/-! is_integer -/
abbrev s_is_integer : Stmt := topS 13
abbrev N_is_integer : List Str := ["value", "low"]
theorem sc_is_integer : FnScope N_is_integer ["value", "low"] (defScope s_is_integer) := ⟨rfl, rfl, rfl, by decide +kernel, rfl, by decide +kernel, by decide +kernel⟩
def isInt (e : D) (low : Int) : Bool := match e with
  | .int i => decide (low ≤ i)
  | _ => false
theorem kit_int {ty : String} (h : ty ∈ ["NoneType", "bool", "int", "str", "tuple", "list"]) : kitB ty "int" = some (ty == "bool" || ty == "int") ∧ kitB ty "bool" = some (ty == "bool") ∧ kitB ty "list" = some (ty == "list") ∧ kitB ty "tuple" = some (ty == "tuple") := by
  revert ty
  decide +kernel
theorem tyN_mem {d : D} {ty : String} (h : d.tyN = some ty) : ty ∈ ["NoneType", "bool", "int", "str", "tuple", "list"] := by
  cases d <;> simp_all [D.tyN] <;> simp [← h]
def p_is_integer (ds : List D) (d : D) : Prop := ∃ (e : D) (low : Int), e.tyN.isSome = true ∧ ds = [e, .int low] ∧ d = .bl (isInt e low)
theorem ok_is_integer {f : Addr} {fd : FuncData} (F : Fun K "is_integer" "is_integer" s_is_integer f fd) (T : Txt mg) : FnOk P w K mg base CX0 1 f fd ["value", "low"] (Pure K p_is_integer) := by
  refine pure_ok F sc_is_integer (fun ds d h => by obtain ⟨_, _, _, rfl, _⟩ := h; rfl) (by decide) fun cdv A outer s H E hr => ?_
  refine ⟨_, (pss_one (ps_ret (pe_and (pe_callB (r := rIsi K) call_isi (by rfl) T.isinstance (by decide +kernel) (pa_cons (pv 0) (pa_cons (pe_bltn (v := .ty "int") (by rfl) T.int (by decide +kernel) rfl) pa_nil))) (pe_and (pe_not (pe_callB (r := rIsi K) call_isi (by rfl) T.isinstance (by decide +kernel) (pa_cons (pv 0) (pa_cons (pe_bltn (v := .ty "bool") (by rfl) T.bool (by decide +kernel) rfl) pa_nil)))) (pe_one (pe_cmpR op_ge (pv 0) (pv 1) (nomark _))))))), ?_⟩
  rintro ds d ⟨e, low, ht, rfl, rfl⟩ De o
  obtain ⟨ty, ht⟩ := Option.isSome_iff_exists.mp ht
  obtain ⟨k1, k2, _⟩ := kit_int (tyN_mem ht)
  refine sd_ret (ep_is (ep_andV (c := (!(ty == "bool")) && isInt e low) (ep_isi (ep_var rfl) ht k1) fun h1 => ep_is (ep_andV (c := isInt e low) (ep_notV (ep_isi (ep_var rfl) ht k2)) fun h2 => ?_) rfl) ?_) o.rt
  · have : ty = "int" := by simpa [show (ty == "bool") = false by simpa using h2] using h1
    subst this
    cases e with
    | int i => exact ep_op (ep_var rfl) (ep_var rfl) r2_cmp
    | _ => simp [D.tyN] at ht
  · cases e <;> simp [D.tyN] at ht <;> subst ht <;> simp [isInt]
/-! ask_size -/
abbrev s_ask_size : Stmt := topS 15
abbrev N_ask_size : List Str := ["size"]
theorem sc_ask_size : FnScope N_ask_size ["size"] (defScope s_ask_size) := ⟨rfl, rfl, rfl, by decide +kernel, rfl, by decide +kernel, by decide +kernel⟩
def p_ask_size (ds : List D) (d : D) : Prop := ∃ n : Nat, 1 ≤ n ∧ ds = [iD n] ∧ d = .non
theorem ok_ask_size {f : Addr} {fd : FuncData} (F : Fun K "ask_size" "ask_size" s_ask_size f fd) (T : Txt mg) (c_is_integer : Cl P w K mg base 1 "is_integer" (Pure K p_is_integer)) : FnOk P w K mg base CX0 2 f fd ["size"] (Pure K p_ask_size) := by
  refine pure_ok F sc_ask_size (fun ds d h => by obtain ⟨_, _, rfl, _⟩ := h; rfl) (by decide) fun cdv A outer s H E hr => ?_
  refine ⟨_, (pss_one (ps_if (pt_not (pt_val (pe_cl c_is_integer hr (by decide) (by rfl) (pa_cons (pv 0) (pa_cons pe_int pa_nil))))) pss_never pss_nil)), ?_⟩
  rintro ds d ⟨n, hn, rfl, rfl⟩ De o
  have e : isInt (iD n) 1 = true := by simp [isInt, iD]; omega
  refine sd_if (et_not (et_B (ep_call (ea_cons (ep_var rfl) (ea_cons ep_int ea_nil)) ⟨iD n, 1, rfl, rfl, rfl⟩))) (fun h => ?_) (fun h => ?_)
  · rw [e] at h
    cases h
  · exact sd_end o
/-! is_thing -/
abbrev s_is_thing : Stmt := topS 16
abbrev N_is_thing : List Str := ["value", "size"]
theorem sc_is_thing : FnScope N_is_thing ["value", "size"] (defScope s_is_thing) := ⟨rfl, rfl, rfl, by decide +kernel, rfl, by decide +kernel, by decide +kernel⟩
def isTh (e : D) (n : Nat) : Bool := match e with
  | .int i => decide (0 ≤ i) && decide (i < (n : Int))
  | _ => false
def p_is_thing (ds : List D) (d : D) : Prop := ∃ (e : D) (n : Nat), e.tyN.isSome = true ∧ ds = [e, iD n] ∧ d = .bl (isTh e n)
theorem ok_is_thing {f : Addr} {fd : FuncData} (F : Fun K "is_thing" "is_thing" s_is_thing f fd) (T : Txt mg) (c_is_integer : Cl P w K mg base 1 "is_integer" (Pure K p_is_integer)) : FnOk P w K mg base CX0 2 f fd ["value", "size"] (Pure K p_is_thing) := by
  refine pure_ok F sc_is_thing (fun ds d h => by obtain ⟨_, _, _, rfl, _⟩ := h; rfl) (by decide) fun cdv A outer s H E hr => ?_
  refine ⟨_, (pss_one (ps_ret (pe_and (pe_cl c_is_integer hr (by decide) (by rfl) (pa_cons (pv 0) (pa_cons pe_int pa_nil))) (pe_one (pe_cmpR op_lt (pv 0) (pv 1) (nomark _)))))), ?_⟩
  rintro ds d ⟨e, n, ht, rfl, rfl⟩ De o
  refine sd_ret (ep_is (ep_andV (c := isTh e n) (ep_call (ea_cons (ep_var rfl) (ea_cons ep_int ea_nil)) ⟨e, 0, ht, rfl, rfl⟩) fun h => ?_) ?_) o.rt
  · cases e with
    | int i =>
      have h0 : decide (0 ≤ i) = true := h
      exact ep_is (ep_op (ep_var rfl) (ep_var rfl) (r2_cmp (g := fun i j => decide (i < j)))) (by simp only [isTh, h0, Bool.true_and])
    | _ => simp [isInt] at h
  · cases e <;> simp [isInt, isTh]
/-! set_of -/
abbrev s_set_of : Stmt := topS 18
abbrev N_set_of : List Str := ["things", "size", "found", "place"]
theorem sc_set_of : FnScope N_set_of ["things", "size"] (defScope s_set_of) := ⟨rfl, rfl, rfl, by decide +kernel, rfl, by decide +kernel, by decide +kernel⟩
/-- a row of things, none twice -/
structure Row (n : Nat) (f : List Nat) : Prop where
  len : f.length < 1000
  nd : f.Nodup
  lt : ∀ x ∈ f, x < n
def Seq (s : D) (l : List D) : Prop := s = .tup l ∨ s = .lst l
def p_set_of (ds : List D) (d : D) : Prop := ∃ (f : List Nat) (n : Nat) (s : D), 1 ≤ n ∧ Row n f ∧ Seq s (f.map iD) ∧ ds = [s, iD n] ∧ d = tD (KM.sortN f)
def q_set_of (CB : Addr) (ds : List D) (C : Addr) (m : Int) : Prop := C = CB ∧ ∃ n : Nat, 1 ≤ n ∧ ((ds = [.non, iD n] ∧ m = -1) ∨
  ∃ (f : List Nat) (e : D) (r : List D) (s : D), Row n f ∧ r.length < 1000 ∧ e.tyN.isSome = true ∧ (isTh e n = false ∨ ∃ x ∈ f, e = iD x) ∧ Seq s (f.map iD ++ e :: r) ∧ ds = [s, iD n] ∧ m = (f.length : Int))
theorem Seq.ty {s : D} {l : List D} (h : Seq s l) : ∃ ty, s.tyN = some ty ∧ (ty == "list" || ty == "tuple") = true := by
  rcases h with rfl | rfl
  · exact ⟨_, rfl, by decide⟩
  · exact ⟨_, rfl, by decide⟩
theorem Seq.len {s : D} {l : List D} (h : Seq s l) : RCd K (rLen K) [s] (.int l.length) := by
  rcases h with rfl | rfl
  · exact rc_lenT
  · exact rc_lenL
theorem Seq.ix {s d : D} {l : List D} {i : Nat} (h : Seq s l) (e : l[i]? = some d) : R2d K (rIx K) s (iD i) d := by
  have a : atI l (i : Int) = some d := by
    have hi : i < l.length := (List.getElem?_eq_some_iff.mp e).1
    unfold atI ixN
    rw [if_pos (by omega), if_pos (by omega)]
    have : ((i : Int)).toNat = i := by omega
    rw [this]
    exact e
  rcases h with rfl | rfl
  · exact fun vx vy H hx hy Q q => .inr (.inl (r2_ixT a vx vy H hx hy Q q))
  · exact fun vx vy H hx hy Q q => .inl (r2_ixL a vx vy H hx hy Q q)
theorem r1_neg {i : Int} : R1d K (rU fun i => .int (-i)) (.int i) (.int (-i)) := fun v H h Q q => by
  cases h
  exact ⟨i, rfl, q _ H (Ex.refl H) (.int _)⟩
theorem isTh_nat {x n : Nat} : isTh (iD x) n = decide (x < n) := by
  simp only [isTh, iD]
  by_cases h : x < n <;> simp [h] <;> omega
theorem in_own {x : Nat} {l : List Nat} : R2d K (rIn K false) (iD x) (.lst (l.map iD)) (.bl (decide (x ∈ l))) := by
  have e0 : (D.lst (l.map iD)) = .lst ((zs l).map D.int) := nD_eq l
  have h := r2_inI (K := K) (i := (x : Int)) (ns := zs l) (y := .lst (l.map iD)) (.inr e0)
  have e : decide ((x : Int) ∈ zs l) = decide (x ∈ l) := by
    rw [Bool.eq_iff_iff, decide_eq_true_iff, decide_eq_true_iff]
    unfold zs
    constructor
    · intro h
      obtain ⟨y, h1, h2⟩ := List.mem_map.mp h
      have : y = x := by omega
      rw [← this]; exact h1
    · intro h
      exact List.mem_map.mpr ⟨x, h, rfl⟩
  rw [e] at h
  exact h
theorem nodup_take {f : List Nat} {i x : Nat} (nd : f.Nodup) (e : f[i]? = some x) : x ∉ f.take i := by
  intro h
  obtain ⟨j, hj, e2⟩ := List.mem_iff_getElem.mp h
  have hji : j < i := by
    rw [List.length_take] at hj
    omega
  rw [List.getElem_take] at e2
  obtain ⟨hi, e1⟩ := List.getElem?_eq_some_iff.mp e
  exact (List.pairwise_iff_getElem.mp nd) j i (by omega) hi hji (e2.trans e1.symm)
theorem ok_set_of {CB fB : Addr} {f : Addr} {fd : FuncData} (F : Fun K "set_of" "set_of" s_set_of f fd) (T : Txt mg) (bc : BadC P K mg CB fB) (c_ask_size : Cl P w K mg base 2 "ask_size" (Pure K p_ask_size)) (c_is_thing : Cl P w K mg base 2 "is_thing" (Pure K p_is_thing)) :
    FnOk P w K mg base (L2.CX P w) 3 f fd ["things", "size"] (PureX K p_set_of (q_set_of CB)) := by
  refine purex_ok F sc_set_of (fun ds h => by
    rcases h with ⟨d, _, _, _, _, _, _, rfl, _⟩ | ⟨C, m, _, n, _, ⟨rfl, _⟩ | ⟨_, _, _, _, _, _, _, _, _, rfl, _⟩⟩ <;> rfl) (by decide) fun cdv A outer s H E hr => ?_
  have tk : L2.Takes (cxOf (L2.CX P w) P w K mg base N_set_of "set_of" (defScope s_set_of) f cdv A outer s H E) (fun cls d _ H => E cls d H) := takes_of rfl rfl rfl rfl
  have po : PassesOwn (model P w) (cxOf (L2.CX P w) P w K mg base N_set_of "set_of" (defScope s_set_of) f cdv A outer s H E).A (cxOf (L2.CX P w) P w K mg base N_set_of "set_of" (defScope s_set_of) f cdv A outer s H E).env (cxOf (L2.CX P w) P w K mg base N_set_of "set_of" (defScope s_set_of) f cdv A outer s H E).xe := passes_of rfl
  refine ⟨_, (pss_cons (ps_expr (pe_cl c_ask_size hr (by decide) (by rfl) (pa_cons (pv 1) pa_nil)))
    (pss_cons (ps_if (pt_not (pt_val (pe_callB (r := rIsiT K) call_isiT (by rfl) T.isinstance (by decide +kernel) (pa_cons (pv 0) (pa_cons (pe_tup (pa_cons (pe_bltn (v := .ty "list") (by rfl) T.list (by decide +kernel) rfl) (pa_cons (pe_bltn (v := .ty "tuple") (by rfl) T.tuple (by decide +kernel) rfl) pa_nil))) pa_nil)))))
      (pss_one (ps_raise (by rfl) tk (pmk_exc (k := 0) bc.c (by decide) (hr.mono (by decide)) (by rfl) bc.m bc.s (pa_cons (pe_un un_neg pe_int) pa_nil)))) pss_nil)
    (pss_cons (ps_set (i := 2) sc_set_of.nd rfl (Or.inl rfl) (pe_lst pa_nil))
    (pss_cons (ps_for po rfl (pi_range1 (by rfl) T.range (pa_cons (pe_callB (r := rLen K) call_lenY (by rfl) T.len PySem.boot_len (pa_cons (pv 0) pa_nil)) pa_nil)) (pg_name (i := 3) sc_set_of.nd rfl (Or.inl rfl))
    (pss_cons (ps_if (pw_or (pt_not (pt_val (pe_cl c_is_thing hr (by decide) (by rfl) (pa_cons (pe_ix (r := rIx K) ix_seq (pv 0) (pv 3) (fun _ _ => rfl)) (pa_cons (pv 1) pa_nil))))) (pw_or1 (pt_cmpR (r := rIn K false) op_in_seq (pe_ix (r := rIx K) ix_seq (pv 0) (pv 3) (fun _ _ => rfl)) (pv 2) rfl))).pt
      (pss_one (ps_raise (by rfl) tk (pmk_exc (k := 0) bc.c (by decide) (hr.mono (by decide)) (by rfl) bc.m bc.s (pa_cons (pv 3) pa_nil)))) pss_nil)
    (pss_one (ps_expr (pe_bm PySem.F.plainAttrs_list PySem.F.slot_list_append PySem.F.type_list_append mt_append (pv 2) (pa_cons (pe_ix (r := rIx K) ix_seq (pv 0) (pv 3) (fun _ _ => rfl)) pa_nil))))))
    (pss_one (ps_ret (pe_callTy (r := rTupOf K) call_tupY (by rfl) T.tuple (by decide +kernel) (pa_cons (pe_callB (r := rSortedI K) cr_sortedI (by rfl) T.sorted (by decide +kernel) (pa_cons (pv 2) pa_nil)) pa_nil)))))))), ?_, ?_⟩
  · rintro ds d ⟨l, n, sq, hn, hl, hs, rfl, rfl⟩ De o
    obtain ⟨ty, ht, hty⟩ := hs.ty
    obtain ⟨_, _, k1, k2⟩ := kit_int (tyN_mem ht)
    refine sd_seq (sd_drop (ep_call (ea_cons (ep_var rfl) ea_nil) ⟨n, hn, rfl, rfl⟩) (sd_go ?_))
    refine sd_seq (sd_if (et_not (et_B (ep_isiT (ep_var rfl) ht k1 k2))) (fun h => ?_) (fun h => ?_))
    · rw [hty] at h
      cases h
    refine sd_go (sd_seq (sd_asgO (ef_lst ea_nil) rfl fun p => sd_go ?_))
    have hlen : ((l.map iD).length : Int) = (l.length : Int) := by rw [List.length_map]
    refine sd_seq (sd_forRP (n := (l.length : Int)) (fun _ => True) (ea_cons (ep_is (ep_cb (ea_cons (ep_var rfl) ea_nil) hs.len) (by rw [hlen])) ea_nil) (by have := hl.len; omega) (fun i => [.val sq, .val (iD n), .own p ((l.take i).map iD), .no]) rfl trivial (fun i hi _ => ?_) (fun _ => sd_go ?_))
    · have hi' : i < l.length := by omega
      have e1 : (l.map iD)[i]? = some (iD l[i]) := by rw [List.getElem?_map, List.getElem?_eq_getElem hi']; rfl
      have hlt : l[i] < n := hl.lt _ (List.getElem_mem hi')
      have hnm : l[i] ∉ l.take i := nodup_take hl.nd (List.getElem?_eq_getElem hi')
      have ix : ∀ {Z : Hp → Prop}, EP K [] H Z (tOp (rIx K) (tVar 0) (tVar 3)) [.val sq, .val (iD n), .own p ((l.take i).map iD), .val (.int i)] (iD l[i]) := ep_op (ep_var rfl) (ep_var (d := iD i) rfl) (hs.ix e1)
      refine sd_seq (sd_if (et_or (et_not (et_B (ep_call (ea_cons ix (ea_cons (ep_var rfl) ea_nil)) ⟨iD l[i], n, rfl, rfl, rfl⟩))) fun _ => et_test (ep_op ix (ep_own rfl) in_own)) (fun h => ?_) (fun h => sd_go ?_))
      · rw [isTh_nat, decide_eq_true hlt, decide_eq_false hnm] at h
        cases h
      · refine sd_app (p := p) rfl ix rfl (by rw [List.length_map, List.length_take]; have := hl.len; omega) (sd_lp trivial ?_)
        rw [List.take_add_one, List.getElem?_eq_getElem hi']
        simp only [Option.toList, List.map_append, List.map_cons, List.map_nil]
        exact .eq (.eq (.eq (.no .nil)))
    · have e2 : ((l.length : Int)).toNat = l.length := by omega
      rw [e2, List.take_length]
      refine sd_ret (ep_is (ep_cb (ea_cons (EF.p (ef_cb (ea_cons (ep_own rfl) ea_nil) rf_sortedN)) ea_nil) rc_tupleL) ?_) o.rt
      rw [tD_eq]
  · rintro ds C m ⟨rfl, n, hn, hq⟩ De o
    rcases hq with ⟨rfl, rfl⟩ | ⟨l, e, r, sq, hl, hr2, he, hbad, hs, rfl, rfl⟩
    · refine sd_seq (sd_drop (ep_call (ea_cons (ep_var rfl) ea_nil) ⟨n, hn, rfl, rfl⟩) (sd_go ?_))
      refine sd_seq (sd_if (et_not (et_B (ep_isiT (d := .non) (ty := "NoneType") (r2 := false) (r3 := false) (ep_var rfl) rfl (by decide +kernel) (by decide +kernel)))) (fun h => ?_) (fun h => ?_))
      · exact sd_raise (ea_cons (ep_un (x := .int 1) ep_int r1_neg) ea_nil) (by decide) (wx_of o)
      · cases h
    · obtain ⟨ty, ht, hty⟩ := hs.ty
      obtain ⟨_, _, k1, k2⟩ := kit_int (tyN_mem ht)
      refine sd_seq (sd_drop (ep_call (ea_cons (ep_var rfl) ea_nil) ⟨n, hn, rfl, rfl⟩) (sd_go ?_))
      refine sd_seq (sd_if (et_not (et_B (ep_isiT (ep_var rfl) ht k1 k2))) (fun h => ?_) (fun h => ?_))
      · rw [hty] at h
        cases h
      refine sd_go (sd_seq (sd_asgO (ef_lst ea_nil) rfl fun p => sd_go ?_))
      have hlen : ((l.map iD ++ e :: r).length : Int) = ((l.length + r.length + 1 : Nat) : Int) := by simp; omega
      refine sd_seq (sd_forRP (n := ((l.length + r.length + 1 : Nat) : Int)) (fun i => i ≤ l.length) (ea_cons (ep_is (ep_cb (ea_cons (ep_var rfl) ea_nil) hs.len) (by rw [hlen])) ea_nil) (by have := hl.len; omega) (fun i => [.val sq, .val (iD n), .own p ((l.take i).map iD), .no]) rfl (Nat.zero_le _) (fun i hi hp => ?_) (fun hp => by omega))
      by_cases hi' : i < l.length
      · have e1 : (l.map iD ++ e :: r)[i]? = some (iD l[i]) := by rw [List.getElem?_append_left (by simpa using hi'), List.getElem?_map, List.getElem?_eq_getElem hi']; rfl
        have hlt : l[i] < n := hl.lt _ (List.getElem_mem hi')
        have hnm : l[i] ∉ l.take i := nodup_take hl.nd (List.getElem?_eq_getElem hi')
        have ix : ∀ {Z : Hp → Prop}, EP K [] H Z (tOp (rIx K) (tVar 0) (tVar 3)) [.val sq, .val (iD n), .own p ((l.take i).map iD), .val (.int i)] (iD l[i]) := ep_op (ep_var rfl) (ep_var (d := iD i) rfl) (hs.ix e1)
        refine sd_seq (sd_if (et_or (et_not (et_B (ep_call (ea_cons ix (ea_cons (ep_var rfl) ea_nil)) ⟨iD l[i], n, rfl, rfl, rfl⟩))) fun _ => et_test (ep_op ix (ep_own rfl) in_own)) (fun h => ?_) (fun h => sd_go ?_))
        · rw [isTh_nat, decide_eq_true hlt, decide_eq_false hnm] at h
          cases h
        · refine sd_app (p := p) rfl ix rfl (by rw [List.length_map, List.length_take]; have := hl.len; omega) (sd_lp (by omega) ?_)
          rw [List.take_add_one, List.getElem?_eq_getElem hi']
          simp only [Option.toList, List.map_append, List.map_cons, List.map_nil]
          exact .eq (.eq (.eq (.no .nil)))
      · have hil : i = l.length := by omega
        subst hil
        have e1 : (l.map iD ++ e :: r)[l.length]? = some e := by rw [List.getElem?_append_right (by simp)]; simp
        have ix : ∀ {Z : Hp → Prop}, EP K [] H Z (tOp (rIx K) (tVar 0) (tVar 3)) [.val sq, .val (iD n), .own p ((l.take l.length).map iD), .val (.int l.length)] e := ep_op (ep_var rfl) (ep_var (d := iD l.length) rfl) (hs.ix e1)
        have raise : ∀ {Z : Hp → Prop} {D' : Ends}, SD K [] H Z (fun _ σ H => tExc C (tCons (tVar 3) tNil) σ H fun cls d H' => E cls d H') D' [.val sq, .val (iD n), .own p ((l.take l.length).map iD), .val (.int l.length)] := sd_raise (ea_cons (ep_var rfl) ea_nil) (by have := hl.len; omega) (wx_of o)
        rcases hbad with hb | ⟨x, hx, rfl⟩
        · refine sd_seq (sd_if (b := true) (et_is (et_or (c := false) (et_not (et_B (ep_call (ea_cons ix (ea_cons (ep_var rfl) ea_nil)) ⟨e, n, he, rfl, rfl⟩))) fun h => by rw [hb] at h; cases h) (by rw [hb]; rfl)) (fun h => raise) (fun h => by cases h))
        · refine sd_seq (sd_if (et_or (et_not (et_B (ep_call (ea_cons ix (ea_cons (ep_var rfl) ea_nil)) ⟨iD x, n, rfl, rfl, rfl⟩))) fun _ => et_test (ep_op ix (ep_own rfl) in_own)) (fun h => raise) (fun h => ?_))
          rw [List.take_length, decide_eq_true hx, Bool.or_true] at h
          cases h
end
end Y
set_option Elab.async false
set_option linter.all false
set_option autoImplicit false
set_option maxRecDepth 100000
set_option maxHeartbeats 4000000
namespace Y
open PySem L2
/-- the class Family -/
structure FamC (K : PySem.W.Frag) (mg : Str → Option Value) (C : Addr) : Prop where
  ob : ObjC K C
  nt : NoAttr K C "things"
  nl : NoAttr K C "lots"
  m : mg "Family" = some (.ref C)
def famD (C : Addr) (n : Nat) (ls : List (List Nat)) : D := .ins C ["things", "lots"] [iD n, tsD ls]
/-- what a family is made of -/
structure InOk (n : Nat) (ls : List (List Nat)) : Prop where
  n1 : 1 ≤ n
  n2 : n ≤ 60
  ne : ls ≠ []
  len : ls.length < 1000
  lne : ∀ l ∈ ls, l ≠ []
  asc : ∀ l ∈ ls, KM.Asc l
  lt : ∀ l ∈ ls, ∀ x ∈ l, x < n
theorem asc_len : ∀ {l : List Nat} {n : Nat}, KM.Asc l → (∀ x ∈ l, x < n) → l.length ≤ n := fun {l n} a h => by
  have e : l = (List.range n).filter (fun x => decide (x ∈ l)) := KM.asc_ext a ((KM.range_asc n).filter _) fun x => by
    rw [List.mem_filter, List.mem_range, decide_eq_true_iff]
    exact ⟨fun hx => ⟨h x hx, hx⟩, fun hx => hx.2⟩
  have := List.length_filter_le (fun x => decide (x ∈ l)) (List.range n)
  rw [← e, List.length_range] at this
  exact this
theorem InOk.lots {n : Nat} {ls : List (List Nat)} (h : InOk n ls) : Lots ls := ⟨h.len, fun l hl => ⟨fun x hx => by have := h.lt l hl x hx; have := h.n2; omega, by have := asc_len (h.asc l hl) (h.lt l hl); have := h.n2; omega⟩, h.asc, h.lne⟩
theorem InOk.row {n : Nat} {ls : List (List Nat)} (h : InOk n ls) {l : List Nat} (hl : l ∈ ls) : Row n l := ⟨by have := asc_len (h.asc l hl) (h.lt l hl); have := h.n2; omega, (h.asc l hl).imp fun h => Nat.ne_of_lt h, h.lt l hl⟩
theorem sortN_asc {l : List Nat} (h : KM.Asc l) : KM.sortN l = l := by
  unfold KM.sortN
  exact List.mergeSort_of_pairwise (h.imp fun {a b} hab => decide_eq_true (Nat.le_of_lt hab))
/-- named defs that may raise; methods that may raise -/
structure ClX (P : Program) (w : World) (K : PySem.W.Frag) (mg : Str → Option Value) (base : Heap) (k : Nat) (x : Str) (sp : Sp) : Prop where
  ex : ∃ (f : Addr) (fd : FuncData) (ps : List Str), FnOk P w K mg base (L2.CX P w) k f fd ps sp ∧ mg x = some (.ref f) ∧ PySem.W.keepIn K (.ref f) = true ∧ Binds K fd ps []
structure ClM (P : Program) (w : World) (K : PySem.W.Frag) (mg : Str → Option Value) (base : Heap) (k : Nat) (C : Addr) (m : Str) (sp : Sp) : Prop where
  ex : ∃ (f : Addr) (fd : FuncData) (ps : List Str), FnOk P w K mg base (L2.CX P w) k f fd ps sp ∧ Meth K C m f ∧ Binds K fd ps []
structure ClI (P : Program) (w : World) (K : PySem.W.Frag) (mg : Str → Option Value) (base : Heap) (k : Nat) (C : Addr) (x : Str) (sp : Sp) : Prop where
  ex : ∃ (f : Addr) (fd : FuncData) (ps : List Str), FnOk P w K mg base CX0 k f fd ps sp ∧ Mk K C f ∧ mg x = some (.ref C) ∧ Binds K fd ps []
/-- an operator of the class at C -/
structure ClO (P : Program) (w : World) (K : PySem.W.Frag) (mg : Str → Option Value) (base : Heap) (k : Nat) (C : Addr) (m : Str) (sp : Sp) : Prop where
  ex : ∃ (f : Addr) (fd : FuncData) (ps : List Str), FnOk P w K mg base CX0 k f fd ps sp ∧ PySem.W.findIn K (.ref C) m = some (some (.ref f)) ∧ PySem.W.isFn K (.ref f) = true ∧ Binds K fd ps []
section
variable {P : Program} {w : World} {K : PySem.W.Frag} {mg : Str → Option Value} {base : Heap} {k j : Nat} {x m : Str} {C : Addr} {sp : Sp}
theorem ClX.cl (c : ClX P w K mg base k x sp) : Cl P w K mg base k x sp := by
  obtain ⟨f, fd, ps, F, h⟩ := c.ex
  exact ⟨f, fd, ps, .inr F, h⟩
end
section
variable {X : Cx} {k j : Nat} {C : Addr} {x m : Str} {sp : Sp} {p pos apos : Pos} {e o : Expr} {es : List Expr} {ta : TE} {t : TA} {W : L2.WX}
theorem pe_clX (c : ClX X.prog X.w X.K X.mg X.base k x sp) (hr : Room j X.A) (hk : k ≤ j) (hg : Gl X x) (tk : L2.Takes X W) (ha : PA X (e :: es) t)
    (hdb : (x == ("__debug__" : Str)) = false := by decide) (he : starEach (e :: es) X.env = (false, eval e X.env) :: starEach es X.env := by rfl) (hpl : (backTo pos (starEach es X.env)).any (·.1) = false := by rfl) :
    PE X (.Call (.Name x p) (e :: es) [] pos) (tCallS sp (WE W) t) := by
  obtain ⟨f, fd, ps, F, hm, kp, b⟩ := c.ex
  exact pe_callS F (hr.mono hk) hg hm kp b (passAt tk) ha hdb he hpl
theorem pe_clM {pl : Sem Bool} (c : ClM X.prog X.w X.K X.mg X.base k C m sp) (hc : Cls X.K C) (hr : Room j X.A) (hk : k ≤ j) (tk : L2.Takes X W) (he : PE X o ta) (ha : PA X (e :: es) t)
    (hst : starEach (e :: es) X.env = (false, eval e X.env) :: starEach es X.env := by rfl) (hpl : (backTo pos (starEach es X.env)).any (·.1) = false := by rfl)
    (ht : eval (.Call (.Attribute o m apos) (e :: es) [] pos) X.env = (do
      let ov ← eval o X.env
      standAt apos.atName
      let (fm, first) ← holding [ov] (getMethod ov m pl)
      callWith pos fm first (backTo pos (starEach (e :: es) X.env)) (backToKw pos (keywordEach [] X.env))) := by rfl) :
    PE X (.Call (.Attribute o m apos) (e :: es) [] pos) (tMeS C m sp (WE W) ta t) := by
  obtain ⟨f, fd, ps, F, hm, b⟩ := c.ex
  exact pe_meS he hc hm F (hr.mono hk) b (passAt tk) ha hst hpl ht
theorem pe_clI (c : ClI X.prog X.w X.K X.mg X.base k C x sp) (hr : Room j X.A) (hk : k + 1 ≤ j) (hg : Gl X x) (ha : PA X (e :: es) t)
    (hdb : (x == ("__debug__" : Str)) = false := by decide) (he : starEach (e :: es) X.env = (false, eval e X.env) :: starEach es X.env := by rfl) (hpl : (backTo pos (starEach es X.env)).any (·.1) = false := by rfl) :
    PE X (.Call (.Name x p) (e :: es) [] pos) (tMake C sp [] E0 t) := by
  obtain ⟨f, fd, ps, F, M, hm, b⟩ := c.ex
  exact pe_make M F (hr.mono hk) hg hm b .nil pass0 ha hdb he hpl
theorem un_clO (c : ClO X.prog X.w X.K X.mg X.base k C "__invert__" sp) (hr : Room j X.A) (hk : k ≤ j) : UnR X (unaryOp .Invert) (rInv C sp) := by
  obtain ⟨f, fd, ps, F, hs, hf, b⟩ := c.ex
  exact un_invO hs hf F (hr.mono hk) b
theorem op_clO (c : ClO X.prog X.w X.K X.mg X.base k C "__eq__" sp) (hn : PySem.W.notFirst X.K C (.ref C) = true) (hr : Room j X.A) (hk : k ≤ j) : OpR X (compareOp .Eq) (rEqO X.K C sp) := by
  obtain ⟨f, fd, ps, F, hs, hf, b⟩ := c.ex
  exact op_eqO hn hs hf F (hr.mono hk) b
end
section
variable {P : Program} {w : World} {K : PySem.W.Frag} {mg : Str → Option Value} {base : Heap}
/-! ask_things -/
abbrev s_ask_things : Stmt := topS 35
abbrev N_ask_things : List Str := ["things"]
theorem sc_ask_things : FnScope N_ask_things ["things"] (defScope s_ask_things) := ⟨rfl, rfl, rfl, by decide +kernel, rfl, by decide +kernel, by decide +kernel⟩
def p_ask_things (ds : List D) (d : D) : Prop := ∃ n : Nat, 1 ≤ n ∧ n ≤ 60 ∧ ds = [iD n] ∧ d = .non
theorem ok_ask_things {f : Addr} {fd : FuncData} {tM : Tok} (F : Fun K "ask_things" "ask_things" s_ask_things f fd) (T : Txt mg) (hM : mg "MOST_THINGS" = some (.int 60 tM)) (c_is_integer : Cl P w K mg base 1 "is_integer" (Pure K p_is_integer)) : FnOk P w K mg base CX0 2 f fd ["things"] (Pure K p_ask_things) := by
  refine pure_ok F sc_ask_things (fun ds d h => by obtain ⟨_, _, _, rfl, _⟩ := h; rfl) (by decide) fun cdv A outer s H E hr => ?_
  refine ⟨_, (pss_one (ps_if (pw_or (pt_not (pt_val (pe_cl c_is_integer hr (by decide) (by rfl) (pa_cons (pv 0) (pa_cons pe_int pa_nil))))) (pw_or1 (pt_cmpR op_gt (pv 0) (pe_glob (v := .int 60) (by rfl) hM ⟨_, rfl⟩) (nomark _)))).pt pss_never pss_nil)), ?_⟩
  rintro ds d ⟨n, hn, hn2, rfl, rfl⟩ De o
  have e : isInt (iD n) 1 = true := by simp [isInt, iD]; omega
  have e2 : decide ((60 : Int) < (n : Int)) = false := decide_eq_false (by omega)
  refine sd_if (et_or (et_not (et_B (ep_call (ea_cons (ep_var rfl) (ea_cons ep_int ea_nil)) ⟨iD n, 1, rfl, rfl, rfl⟩))) fun _ => et_test (ep_op (ep_var rfl) ep_int (r2_cmp (g := fun i j => decide (j < i))))) (fun h => ?_) (fun h => ?_)
  · rw [e, e2] at h
    cases h
  · exact sd_end o
/-! checked_lot -/
abbrev s_checked_lot : Stmt := topS 36
abbrev N_checked_lot : List Str := ["lot", "place", "things", "found"]
theorem sc_checked_lot : FnScope N_checked_lot ["lot", "place", "things"] (defScope s_checked_lot) := ⟨rfl, rfl, rfl, by decide +kernel, rfl, by decide +kernel, by decide +kernel⟩
def p_checked_lot (ds : List D) (d : D) : Prop := ∃ (l : List Nat) (n i : Nat), 1 ≤ n ∧ Row n l ∧ l ≠ [] ∧ ds = [tD l, iD i, iD n] ∧ d = tD (KM.sortN l)
theorem ok_checked_lot {f : Addr} {fd : FuncData} {CB : Addr} (F : Fun K "checked_lot" "checked_lot" s_checked_lot f fd) (T : Txt mg) (c_set_of : Cl P w K mg base 3 "set_of" (PureX K p_set_of (q_set_of CB))) : FnOk P w K mg base CX0 4 f fd ["lot", "place", "things"] (Pure K p_checked_lot) := by
  refine pure_ok F sc_checked_lot (fun ds d h => by obtain ⟨_, _, _, _, _, _, rfl, _⟩ := h; rfl) (by decide) fun cdv A outer s H E hr => ?_
  refine ⟨_, (pss_cons (ps_try_thru0 (pss_one (ps_set (i := 3) sc_checked_lot.nd rfl (Or.inl rfl) (pe_cl c_set_of hr (by decide) (by rfl) (pa_cons (pv 0) (pa_cons (pv 2) pa_nil))))))
    (pss_cons (ps_if (pt_cmpR op_eq (pe_callB (r := rLen K) call_lenY (by rfl) T.len PySem.boot_len (pa_cons (pv 3) pa_nil)) pe_int (nomark _)) pss_never pss_nil)
    (pss_one (ps_ret (pv 3))))), ?_⟩
  rintro ds d ⟨l, n, i, hn, hl, hne, rfl, rfl⟩ De o
  refine sd_seq (sd_asg (ep_callX (ea_cons (ep_var rfl) (ea_cons (ep_var rfl) ea_nil)) ⟨l, n, tD l, hn, hl, .inl (tD_eq l), rfl, rfl⟩) (tD_im _) (sd_go ?_))
  have hz : (KM.sortN l).length ≠ 0 := by
    rw [(KM.sortN_perm l).length_eq]
    exact fun z => hne (List.length_eq_zero_iff.mp z)
  refine sd_seq (sd_if (et_test (ep_op (ep_is (ep_cb (ea_cons (ep_var (d := .tup ((KM.sortN l).map iD)) (by rw [← tD_eq]; rfl)) ea_nil) rc_lenTn) rfl) ep_n0 r2_eqN)) (fun h => ?_) (fun h => sd_go ?_))
  · exact absurd (by simpa using h) hz
  · exact sd_ret (ep_var rfl) o.rt
/-! Family.init -/
abbrev s_Family_init : Stmt := inClass (topS 38) 0
abbrev N_Family_init : List Str := ["self", "things", "lots", "found", "place"]
theorem sc_Family_init : FnScope N_Family_init ["self", "things", "lots"] (defScope s_Family_init) := ⟨rfl, rfl, rfl, by decide +kernel, rfl, by decide +kernel, by decide +kernel⟩
def p_init (ds : List D) (ns : List Str) (l : List D) : Prop := ∃ (n : Nat) (ls : List (List Nat)) (s : D), InOk n ls ∧ Seq s (ls.map tD) ∧ ds = [iD n, s] ∧ ns = (["things", "lots"] : List Str) ∧ l = [iD n, tsD (KM.leastLots ls)]
theorem Seq.clean {s : D} {l : List D} (h : Seq s l) (im : imAll l = true) : True := trivial
theorem ok_init {f C : Addr} {fd : FuncData} (F : Fun K "__init__" "Family.__init__" s_Family_init f fd) (T : Txt mg) (fc : FamC K mg C) (c_ask_things : Cl P w K mg base 2 "ask_things" (Pure K p_ask_things)) (c_checked_lot : Cl P w K mg base 4 "checked_lot" (Pure K p_checked_lot))
    (c_least_lots : Cl P w K mg base 3 "least_lots" (Pure K p_least_lots)) : FnOk P w K mg base CX0 5 f fd ["self", "things", "lots"] (InitP K C p_init) := by
  refine init_ok F sc_Family_init (fun ds ns l h => by obtain ⟨_, _, _, _, _, rfl, _⟩ := h; rfl) (by decide) fun cdv A outer s H E hr => ?_
  refine ⟨_, (pss_cons (ps_expr (pe_cl c_ask_things hr (by decide) (by rfl) (pa_cons (pv 1) pa_nil)))
    (pss_cons (ps_if (pt_not (pt_val (pe_callB (r := rIsiT K) call_isiT (by rfl) T.isinstance (by decide +kernel) (pa_cons (pv 2) (pa_cons (pe_tup (pa_cons (pe_bltn (v := .ty "list") (by rfl) T.list (by decide +kernel) rfl) (pa_cons (pe_bltn (v := .ty "tuple") (by rfl) T.tuple (by decide +kernel) rfl) pa_nil))) pa_nil))))) pss_never pss_nil)
    (pss_cons (ps_setLc (i := 3) (own := [("place", 4)]) (g := gName 4) rfl sc_Family_init.nd rfl rfl (sw_true rfl rfl rfl (by decide +kernel)) (pi_range1 (by rfl) T.range (pa_cons (pe_callB (r := rLen K) call_lenY (by rfl) T.len PySem.boot_len (pa_cons (pv 2) pa_nil)) pa_nil)) (blkOk_by (N := N_Family_init) (sc := defScope s_Family_init) (by decide +kernel)) (fun _ _ _ _ _ => pg_name (i := 4) sc_Family_init.nd rfl (Or.inl rfl)) (fun _ _ _ _ _ => pts_nil) (fun _ _ _ _ _ => (pe_cl c_checked_lot hr (by decide) (by rfl) (pa_cons (pe_ix (r := rIx K) ix_seq (pv 2) (pv 4) (fun _ _ => rfl)) (pa_cons (pv 4) (pa_cons (pv 1) pa_nil))))))
    (pss_cons (ps_if (pt_cmpR op_eq (pe_callB (r := rLen K) call_lenY (by rfl) T.len PySem.boot_len (pa_cons (pv 3) pa_nil)) pe_int (nomark _)) pss_never pss_nil)
    (pss_cons (ps_fld (pv 0) (pv 1) rfl)
    (pss_one (ps_fld (pv 0) (pe_cl c_least_lots hr (by decide) (by rfl) (pa_cons (pv 3) pa_nil)) rfl))))))), ?_⟩
  rintro ds ns l a dx ⟨n, ls, sq, hi, hs, rfl, rfl, rfl⟩ De o
  obtain ⟨ty, ht, hty⟩ := hs.ty
  obtain ⟨_, _, k1, k2⟩ := kit_int (tyN_mem ht)
  refine sd_seq (sd_drop (ep_call (ea_cons (ep_var rfl) ea_nil) ⟨n, hi.n1, hi.n2, rfl, rfl⟩) (sd_go ?_))
  refine sd_seq (sd_if (et_not (et_B (ep_isiT (ep_var rfl) ht k1 k2))) (fun h => ?_) (fun h => ?_))
  · rw [hty] at h
    cases h
  refine sd_go ?_
  have hl2 := hi.len
  have e0 : EF K [a] H (ZI K a C dx [] []) (tLc (iRng1 (tCons (tCB (rLen K) (tCons (tVar 2) tNil)) tNil)) (gName 4) tYes (tCall (Pure K p_checked_lot) [] E0 (tCons (tOp (rIx K) (tVar 2) (tVar 4)) (tCons (tVar 4) (tCons (tVar 1) tNil)))) [4]) (entry N_Family_init [.adr a, iD n, sq]) (ls.map tD) := by
    have h1 := ef_lcR1 (K := K) (B := [a]) (H0 := H) (Z := ZI K a C dx [] []) (E := entry N_Family_init [.adr a, iD n, sq]) (j := 4) (n := (ls.length : Int)) (te := tCall (Pure K p_checked_lot) [] E0 (tCons (tOp (rIx K) (tVar 2) (tVar 4)) (tCons (tVar 4) (tCons (tVar 1) tNil)))) (fun i => tD (ls.getD i [])) (ea_cons (ep_is (ep_cb (ea_cons (ep_var (i := 2) rfl) ea_nil) hs.len) (by rw [List.length_map])) ea_nil) (by omega) (fun i hi' => ?_) (fun _ _ => tD_im _)
    · have e3 : (List.range ((ls.length : Int)).toNat).map (fun i => tD (ls.getD i [])) = ls.map tD := by
        have : ((ls.length : Int)).toNat = ls.length := by omega
        rw [this]
        refine List.ext_getElem (by simp) fun i h1 h2 => ?_
        have hlt : i < ls.length := by simpa using h2
        simp [List.getD, List.getElem?_eq_getElem hlt]
      rw [e3] at h1
      exact h1
    · have hlt : i < ls.length := by omega
      have e1 : (ls.map tD)[i]? = some (tD ls[i]) := by rw [List.getElem?_map, List.getElem?_eq_getElem hlt]; rfl
      have e2 : ls.getD i [] = ls[i] := by simp [List.getD, List.getElem?_eq_getElem hlt]
      have hm := List.getElem_mem hlt
      have h3 : KM.sortN ls[i] = ls[i] := sortN_asc (hi.asc _ hm)
      rw [e2]
      refine ep_call (ea_cons (ep_op (ep_var rfl) (ep_var (d := iD i) rfl) (hs.ix e1)) (ea_cons (ep_var (d := iD i) rfl) (ea_cons (ep_var rfl) ea_nil))) ⟨ls[i], n, i, hi.n1, hi.row hm, hi.lne _ hm, rfl, by rw [h3]⟩
  refine sd_seq (sd_asgL e0 (imAll_tD _) (sd_go ?_))
  refine sd_seq (sd_if (et_test (ep_op (ep_is (ep_cb (ea_cons (ep_var (d := .lst (ls.map tD)) rfl) ea_nil) rc_lenLn) rfl) ep_n0 r2_eqN)) (fun h => ?_) (fun h => sd_go ?_))
  · exact absurd (by simpa using h) (fun z => hi.ne (List.length_eq_zero_iff.mp z))
  have nbT : ∀ l : List Nat, (tD l).nob = true := fun l => by
    rw [tD_eq]
    show nobAll _ = true
    exact nobAll_iff.mpr fun d hd => by obtain ⟨x, _, rfl⟩ := List.mem_map.mp hd; rfl
  have nbL : ∀ ls : List (List Nat), nobAll (ls.map tD) = true := fun ls => nobAll_iff.mpr fun d hd => by obtain ⟨x, _, rfl⟩ := List.mem_map.mp hd; exact nbT x
  have nbS : sq.nob = true := by
    rcases hs with rfl | rfl
    · exact nbL ls
    · exact nbL ls
  have hE : ∀ s ∈ (entry N_Family_init [.adr a, iD n, sq]).set 3 (.val (.lst (ls.map tD))), nobS s = true := fun s hs => by
    have : s ∈ [Slot.val (.adr a), .val (iD n), .val sq, .val (.lst (ls.map tD)), .no] := hs
    simp only [List.mem_cons, List.not_mem_nil, or_false] at this
    rcases this with rfl | rfl | rfl | rfl | rfl
    · rfl
    · rfl
    · exact nbS
    · exact nbL ls
    · rfl
  refine sd_seq (sd_fld (ep_var rfl) (ep_var (d := iD n) rfl) fc.ob.cl fc.nt hE rfl rfl rfl (by simp) (by simp) (sd_go ?_))
  refine sd_fld (ep_var rfl) (ep_call (ea_cons (ep_var (d := lsD ls) rfl) ea_nil) ⟨ls, hi.lots, rfl, rfl⟩) fc.ob.cl fc.nl hE (tsD_im _) (nbL _) rfl (by decide) (by simp) ?_
  exact sd_endI o
/-! Family.eq -/
abbrev s_Family_eq : Stmt := inClass (topS 38) 4
abbrev N_Family_eq : List Str := ["self", "other"]
theorem sc_Family_eq : FnScope N_Family_eq ["self", "other"] (defScope s_Family_eq) := ⟨rfl, rfl, rfl, by decide +kernel, rfl, by decide +kernel, by decide +kernel⟩
def p_eq (C : Addr) (ds : List D) (d : D) : Prop := ∃ (n n' : Nat) (ls ls' : List (List Nat)), ds = [famD C n ls, famD C n' ls'] ∧ d = .bl (n == n' && decide (ls = ls'))
theorem ok_eq {f C : Addr} {fd : FuncData} (F : Fun K "__eq__" "Family.__eq__" s_Family_eq f fd) (T : Txt mg) (fc : FamC K mg C) : FnOk P w K mg base CX0 1 f fd ["self", "other"] (Pure K (p_eq C)) := by
  refine pure_ok F sc_Family_eq (fun ds d h => by obtain ⟨_, _, _, _, rfl, _⟩ := h; rfl) (by decide) fun cdv A outer s H E hr => ?_
  have hu := hr.units
  refine ⟨_, (pss_one (ps_ret (pe_and (pe_callB (r := rIsi K) call_isi (by rfl) T.isinstance (by decide +kernel) (pa_cons (pv 1) (pa_cons (pe_glob (v := .ref C) (by rfl) fc.m rfl) pa_nil))) (pe_and (pe_cmpR op_eq (pe_fld (pv 0) rfl) (pe_fld (pv 1) rfl) (nomark _)) (pe_one (pe_cmpR (r := rEqD K) (op_eqD hu) (pe_fld (pv 0) rfl) (pe_fld (pv 1) rfl) (nomark _))))))), ?_⟩
  rintro ds d ⟨n, n', ls, ls', rfl, rfl⟩ De o
  refine sd_ret (ep_is (ep_andV (c := (n == n' && decide (ls = ls'))) (ep_isiO (ep_var rfl) fc.ob) fun _ => ep_andV (ep_op (ep_fld (ep_var rfl) fc.ob.cl fc.nt rfl) (ep_fld (ep_var rfl) fc.ob.cl fc.nt rfl) r2_eqN) fun _ => ep_op (ep_fld (ep_var rfl) fc.ob.cl fc.nl rfl) (ep_fld (ep_var rfl) fc.ob.cl fc.nl rfl) (r2_eqD (lsD_cmp ls).2 (lsD_cmp ls').2 ?_)) (by simp)) o.rt
  rw [decide_eq_true_iff]
  unfold tsD
  rw [D.tup.injEq, map_tD_inj]
/-! Family.invert -/
abbrev s_Family_invert : Stmt := inClass (topS 38) 10
abbrev N_Family_invert : List Str := ["self"]
theorem sc_Family_invert : FnScope N_Family_invert ["self"] (defScope s_Family_invert) := ⟨rfl, rfl, rfl, by decide +kernel, rfl, by decide +kernel, by decide +kernel⟩
/-- ~ may be asked -/
structure InvOk (n : Nat) (ls : List (List Nat)) : Prop where
  i : InOk n ls
  kept : ∀ i, (keptAt ls i).length < 1000
  o : InOk n (KM.blockerLots ls)
def p_invert (C : Addr) (ds : List D) (d : D) : Prop := ∃ (n : Nat) (ls : List (List Nat)), InvOk n ls ∧ ds = [famD C n ls] ∧ d = famD C n (KM.leastLots (KM.blockerLots ls))
theorem ok_invert {f C : Addr} {fd : FuncData} (F : Fun K "__invert__" "Family.__invert__" s_Family_invert f fd) (T : Txt mg) (fc : FamC K mg C) (c_Family : ClI P w K mg base 5 C "Family" (InitP K C p_init)) (c_blocker_lots : Cl P w K mg base 3 "blocker_lots" (Pure K p_blocker_lots)) :
    FnOk P w K mg base CX0 7 f fd ["self"] (Pure K (p_invert C)) := by
  refine pure_ok F sc_Family_invert (fun ds d h => by obtain ⟨_, _, _, rfl, _⟩ := h; rfl) (by decide) fun cdv A outer s H E hr => ?_
  refine ⟨_, (pss_one (ps_ret (pe_clI c_Family hr (by decide) (by rfl) (pa_cons (pe_fld (pv 0) rfl) (pa_cons (pe_cl c_blocker_lots hr (by decide) (by rfl) (pa_cons (pe_fld (pv 0) rfl) pa_nil)) pa_nil))))), ?_⟩
  rintro ds d ⟨n, ls, hi, rfl, rfl⟩ De o
  exact sd_ret (ep_make (ea_cons (ep_fld (ep_var rfl) fc.ob.cl fc.nt rfl) (ea_cons (ep_call (ea_cons (ep_fld (ep_var rfl) fc.ob.cl fc.nl rfl) ea_nil) ⟨ls, hi.i.lots, hi.kept, rfl, rfl⟩) ea_nil)) ⟨n, _, _, hi.o, .inl rfl, rfl, rfl, rfl⟩) o.rt
/-! Family.holds -/
abbrev s_Family_holds : Stmt := inClass (topS 38) 14
abbrev N_Family_holds : List Str := ["self", "things", "mask", "lot"]
theorem sc_Family_holds : FnScope N_Family_holds ["self", "things"] (defScope s_Family_holds) := ⟨rfl, rfl, rfl, by decide +kernel, rfl, by decide +kernel, by decide +kernel⟩
def holdsM (ls : List (List Nat)) (f : List Nat) : Bool := ls.any fun l => KM.maskOf l &&& KM.maskOf (KM.sortN f) == KM.maskOf l
def p_holds (C : Addr) (ds : List D) (d : D) : Prop := ∃ (n : Nat) (ls : List (List Nat)) (f : List Nat) (s : D), InOk n ls ∧ Row n f ∧ Seq s (f.map iD) ∧ ds = [famD C n ls, s] ∧ d = .bl (holdsM ls f)
def q_holds (C CB : Addr) (ds : List D) (C' : Addr) (m : Int) : Prop := ∃ (n : Nat) (ls : List (List Nat)) (s : D), InOk n ls ∧ ds = [famD C n ls, s] ∧ q_set_of CB [s, iD n] C' m
theorem ok_holds {f C CB : Addr} {fd : FuncData} (F : Fun K "holds" "Family.holds" s_Family_holds f fd) (T : Txt mg) (fc : FamC K mg C) (c_mask_of : Cl P w K mg base 1 "mask_of" (Pure K p_mask_of)) (c_set_of : ClX P w K mg base 3 "set_of" (PureX K p_set_of (q_set_of CB))) :
    FnOk P w K mg base (L2.CX P w) 4 f fd ["self", "things"] (PureX K (p_holds C) (q_holds C CB)) := by
  refine purex_ok F sc_Family_holds (fun ds h => by
    rcases h with ⟨d, _, _, _, _, _, _, _, rfl, _⟩ | ⟨_, _, _, _, _, _, rfl, _⟩ <;> rfl) (by decide) fun cdv A outer s H E hr => ?_
  have tk : L2.Takes (cxOf (L2.CX P w) P w K mg base N_Family_holds "Family.holds" (defScope s_Family_holds) f cdv A outer s H E) (fun cls d _ H => E cls d H) := takes_of rfl rfl rfl rfl
  refine ⟨_, (pss_cons (ps_set (i := 2) sc_Family_holds.nd rfl (Or.inr rfl) (pe_cl c_mask_of hr (by decide) (by rfl) (pa_cons (pe_clX c_set_of hr (by decide) (by rfl) tk (pa_cons (pv 1) (pa_cons (pe_fld (pv 0) rfl) pa_nil))) pa_nil)))
    (pss_one (ps_ret (pe_callB (r := rAny K) (cr_any rfl) (by rfl) T.any (by decide +kernel) (pa_cons (pe_lc (own := [("lot", 3)]) (g := gName 3) rfl sc_Family_holds.nd (pi_tup (pe_fld (pv 0) rfl)) (blkOk_by (N := N_Family_holds) (sc := defScope s_Family_holds) (by decide +kernel)) (fun _ _ _ _ _ => pg_name (i := 3) sc_Family_holds.nd rfl (Or.inl rfl)) (fun _ _ _ _ _ => pts_nil) (fun _ _ _ _ _ => (pe_cmpR op_eq (pe_op op_and (pe_cl c_mask_of hr (by decide) (by rfl) (pa_cons (pv 3) pa_nil)) (pv 2)) (pe_cl c_mask_of hr (by decide) (by rfl) (pa_cons (pv 3) pa_nil)) (nomark _)))) pa_nil))))), ?_, ?_⟩
  · rintro ds d ⟨n, ls, l, sq, hi, hl, hs, rfl, rfl⟩ De o
    have sm : Sm (KM.sortN l) := ⟨fun x hx => by
      have := hl.lt x ((KM.sortN_perm l).mem_iff.mp hx)
      have := hi.n2
      omega, by rw [(KM.sortN_perm l).length_eq]; exact hl.len⟩
    refine sd_seq (sd_asg (d := iD (KM.maskOf (KM.sortN l))) (ep_call (ea_cons (ep_callS (ea_cons (ep_var rfl) (ea_cons (ep_fld (ep_var rfl) fc.ob.cl fc.nt rfl) ea_nil)) ⟨l, n, sq, hi.n1, hl, hs, rfl, rfl⟩) ea_nil) ⟨KM.sortN l, sm, rfl, rfl⟩) rfl (sd_go ?_))
    have hz := hi.len
    refine sd_ret (ep_cb (ea_cons (EF.p (ef_lcT1 (c := tD) (ts := ls) (fun lot => .bl (KM.maskOf lot &&& KM.maskOf (KM.sortN l) == KM.maskOf lot)) (ep_fld (ep_var rfl) fc.ob.cl fc.nl rfl) (fun _ _ => tD_im _) (by omega)
      (fun lot hlot => ep_op (ep_op (ep_call (ea_cons (ep_var rfl) ea_nil) ⟨lot, hi.lots.sm lot hlot, rfl, rfl⟩) (ep_var rfl) r2_and) (ep_call (ea_cons (ep_var rfl) ea_nil) ⟨lot, hi.lots.sm lot hlot, rfl, rfl⟩) r2_eqN) (fun _ _ => rfl))) ea_nil) rc_anyL) o.rt
  · rintro ds C' m ⟨n, ls, sq, hi, rfl, hq⟩ De o
    exact sd_seq (sd_asgR (er_call (era_cons (er_callS (ea_cons (ep_var rfl) (ea_cons (ep_fld (ep_var rfl) fc.ob.cl fc.nt rfl) ea_nil)) hq (wx_of o)))))
/-! blocker -/
abbrev s_blocker : Stmt := topS 30
abbrev N_blocker : List Str := ["family"]
theorem sc_blocker : FnScope N_blocker ["family"] (defScope s_blocker) := ⟨rfl, rfl, rfl, by decide +kernel, rfl, by decide +kernel, by decide +kernel⟩
theorem ok_blocker {f C : Addr} {fd : FuncData} (F : Fun K "blocker" "blocker" s_blocker f fd) (T : Txt mg) (c_inv : ClO P w K mg base 7 C "__invert__" (Pure K (p_invert C))) : FnOk P w K mg base CX0 8 f fd ["family"] (Pure K (p_invert C)) := by
  refine pure_ok F sc_blocker (fun ds d h => by obtain ⟨_, _, _, rfl, _⟩ := h; rfl) (by decide) fun cdv A outer s H E hr => ?_
  refine ⟨_, (pss_one (ps_ret (pe_un (r := rInv C (Pure K (p_invert C))) (un_clO c_inv hr (by decide)) (pv 0)))), ?_⟩
  rintro ds d ⟨n, ls, hi, rfl, rfl⟩ De o
  exact sd_ret (ep_un (ep_var rfl) (r1_inv ⟨n, ls, hi, rfl, rfl⟩)) o.rt
/-! side_of -/
abbrev s_side_of : Stmt := topS 31
abbrev N_side_of : List Str := ["family", "things"]
theorem sc_side_of : FnScope N_side_of ["family", "things"] (defScope s_side_of) := ⟨rfl, rfl, rfl, by decide +kernel, rfl, by decide +kernel, by decide +kernel⟩
def p_side_of (C : Addr) (ds : List D) (d : D) : Prop := ∃ b, p_holds C ds (.bl b) ∧ d = .str (if b then "lot" else "block")
theorem ok_side_of {f C CB : Addr} {fd : FuncData} (F : Fun K "side_of" "side_of" s_side_of f fd) (T : Txt mg) (fc : FamC K mg C) (c_holds : ClM P w K mg base 4 C "holds" (PureX K (p_holds C) (q_holds C CB))) :
    FnOk P w K mg base (L2.CX P w) 5 f fd ["family", "things"] (PureX K (p_side_of C) (q_holds C CB)) := by
  refine purex_ok F sc_side_of (fun ds h => by
    rcases h with ⟨d, _, ⟨_, _, _, _, _, _, _, rfl, _⟩, _⟩ | ⟨_, _, _, _, _, _, rfl, _⟩ <;> rfl) (by decide) fun cdv A outer s H E hr => ?_
  have tk : L2.Takes (cxOf (L2.CX P w) P w K mg base N_side_of "side_of" (defScope s_side_of) f cdv A outer s H E) (fun cls d _ H => E cls d H) := takes_of rfl rfl rfl rfl
  refine ⟨_, (pss_one (ps_ret (pe_ifExp (pt_val (pe_clM c_holds fc.ob.cl hr (by decide) tk (pv 0) (pa_cons (pv 1) pa_nil))) pe_str pe_str))), ?_, ?_⟩
  · rintro ds d ⟨b, ⟨n, ls, l, sq, hi, hl, hs, rfl, hb⟩, rfl⟩ De o
    refine sd_ret (ep_if (et_B (ep_meS (ep_var rfl) (by decide) (ea_cons (ep_var rfl) ea_nil) ⟨n, ls, l, sq, hi, hl, hs, rfl, rfl⟩)) (fun h => ?_) (fun h => ?_)) o.rt
    · cases hb
      rw [h]
      exact ep_str
    · cases hb
      rw [h]
      exact ep_str
  · rintro ds C' m ⟨n, ls, sq, hi, rfl, hq⟩ De o
    exact sd_retR (er_if (ert_test (er_meS (ep_var rfl) (by decide) (ea_cons (ep_var rfl) ea_nil) ⟨n, ls, sq, hi, rfl, hq⟩ (wx_of o))))
end
end Y
set_option Elab.async false
set_option linter.all false
set_option autoImplicit false
set_option maxRecDepth 100000
set_option maxHeartbeats 4000000
namespace Y
open PySem L2
section
variable {P : Program} {w : World} {K : PySem.W.Frag} {mg : Str → Option Value} {base : Heap}
/-! pick -/
abbrev s_law_pick : Stmt := topS 44
abbrev N_law_pick : List Str := ["_law_draws_here", "_law_bound"]
theorem sc_law_pick : FnScope N_law_pick ["_law_draws_here", "_law_bound"] (defScope s_law_pick) := ⟨rfl, rfl, rfl, by decide +kernel, rfl, by decide +kernel, by decide +kernel⟩
def ok_p (ds : List D) : Prop := ∃ b : Nat, 1 ≤ b ∧ ds = [iD b]
def p_pick (ds : List D) (d : D) : Prop := ∃ b x : Nat, x < b ∧ ds = [iD b] ∧ d = iD x
abbrev PickP (K : PySem.W.Frag) : Sp := DrawP K ok_p p_pick
theorem sd_pop {p : Addr} {ns : List Int} {H : Hp} {Z : Hp → Prop} {De : Ends} {b : Nat} {y : Int} {ms : List Int} (hb : 1 ≤ b) (hns : ns = ms ++ [y]) (o : ∀ v H' d ns', Drw H H' p → H' p = some (iv ns') → Is K (hid [p] H') v d → p_pick [iD b] d → De.rt v H') :
    SD K [p] H Z (tRet (tOp (rI (fun _ j => 0 < j) fun i j => .int (i % j)) (tCB (fun xs H Q => (∃ i, xs = [.int i] ∧ Q (.int i) H) ∨ ∃ k, xs = [.bl k] ∧ Q (.int (if k then 1 else 0)) H) (tCons (tBM0 K "list" rPop (tVar 0)) tNil)) (tVar 1))) De (entryD N_law_pick p [iD b] ns) := fun σ H1 e => by
  have hd := ds_entry N_law_pick p [iD b]
  obtain ⟨h1, h2⟩ := e.dat hd
  obtain ⟨v, h3, h4⟩ := e.val 1 (iD b) rfl
  cases h4
  obtain ⟨w1, _⟩ := env_drw hd e
  have hx : (ns.map V.int)[(ns.map V.int).length - 1]? = some (V.int y) := by rw [hns]; simp
  refine ⟨.ref p, h1, .inl ⟨rfl, _, SqL.of h2⟩, p, _, _, rfl, rfl, h2, hx, .inl ⟨y, rfl, _, h3, y, (b : Int), rfl, rfl, by omega, ?_⟩⟩
  refine o _ _ (iD (y % b).toNat) (ns.dropLast) (w1.trans fun a o' n q => by rw [upd_ne n]; exact q) (by rw [upd_same, List.dropLast_eq_take, List.dropLast_eq_take, iv, List.map_take, List.length_map]) ?_ ⟨b, _, ?_, rfl, rfl⟩
  · have h0 : 0 ≤ y % b := Int.emod_nonneg y (by omega)
    have : (((y % b).toNat : Nat) : Int) = y % b := by omega
    unfold iD
    rw [this]
    exact .int _
  · have h0 : 0 ≤ y % b := Int.emod_nonneg y (by omega)
    have h1 : y % b < b := Int.emod_lt_of_pos y (by omega)
    omega
theorem ok_law_pick {f : Addr} {fd : FuncData} (F : Fun K "_law_pick" "_law_pick" s_law_pick f fd) (T : Txt mg) : FnOk P w K mg base CX0 1 f fd ["_law_draws_here", "_law_bound"] (PickP K) := by
  refine draw_ok F sc_law_pick (fun ds h => by obtain ⟨_, _, rfl⟩ := h; rfl) (by decide) fun cdv A outer s H E hr => ?_
  refine ⟨_, (pss_cons (ps_if (pt_cmpR op_eq (pe_callB (r := rLen K) call_lenY (by rfl) T.len PySem.boot_len (pa_cons (pv 0) pa_nil)) pe_int (nomark _)) (pss_one (ps_ret pe_int)) pss_nil)
    (pss_one (ps_ret (pe_op op_mod (pe_callTy call_int1 (by rfl) T.int (by decide +kernel) (pa_cons (pe_bm0 PySem.F.plainAttrs_list PySem.F.slot_list_pop PySem.F.type_list_pop mt_pop (pv 0)) pa_nil)) (pv 1))))), ?_⟩
  rintro ds p ⟨b, hb, rfl⟩ De o _ ns
  have hd := ds_entry N_law_pick p [iD b]
  refine sd_seq (sd_if (et_test (ep_op (ep_cb (ea_cons (ep_own (l := ns.map D.int) rfl) ea_nil) rc_lenLn) ep_n0 r2_eqN)) (fun h => ?_) (fun h => sd_go ?_))
  · exact sd_retD (d := iD 0) hd ec_int o ⟨b, 0, hb, rfl, rfl⟩
  · rcases List.eq_nil_or_concat ns with rfl | ⟨ms, y, hy⟩
    · cases h
    · exact sd_pop hb (by simpa using hy) o
end
end Y
set_option Elab.async false
set_option linter.all false
set_option autoImplicit false
set_option maxRecDepth 100000
set_option maxHeartbeats 4000000
namespace Y
open PySem L2
section
variable {K : PySem.W.Frag} {B : List Addr} {H0 : Hp} {Z : Hp → Prop} {S : List Int → List Slot} {i : Nat} {p : Addr} {te : TE}
theorem en_pick {b : Nat} (hd : DS S i p) (h : ∀ ns, EC K B H0 Z te (S ns) (iD b)) (hb : 1 ≤ b) : EN K B H0 Z (tCall (PickP K) [] E0 (tCons (tVar i) (tCons te tNil))) S p (fun d => ∃ x, x < b ∧ d = iD x) :=
  en_draw hd (fun ns => eac_cons (h ns) eac_nil) ⟨b, hb, rfl⟩ (fun d hp => by
    obtain ⟨b', x, hx, e, rfl⟩ := hp
    have : b' = b := by
      have := List.cons.inj e
      have h2 : D.int (b : Int) = D.int (b' : Int) := this.1
      injection h2 with h2
      omega
    subst this
    exact ⟨x, hx, rfl⟩) (.inl fun d hp => by
    obtain ⟨_, x, _, _, rfl⟩ := hp
    rfl)
theorem dt_pick {b : Nat} {r : R2} {k : Int} (hb : 1 ≤ b) (hr : ∀ (x : Nat) H (Q : VK), (∀ c, Q (.bl c) H) → r (.int x) (.int k) H Q) : DT (tTest (tOp r (tCall (PickP K) [] E0 (tCons (tVar i) (tCons (tC (.int b)) tNil))) (tC (.int k)))) i p := fun σ H ns h1 h2 Q q => by
  refine ⟨.ref p, h1, ⟨p, [.int b], [iD b], ns, rfl, h2, .one (.int _), ⟨b, hb, rfl⟩, fun v H' d ns' w hp hv hpre => ?_⟩⟩
  obtain ⟨b', x, _, _, rfl⟩ := hpre
  cases hv
  exact hr x H' _ fun c => ⟨c, rfl, q c H' ns' w hp⟩
theorem req_any {x : Nat} {k : Int} {H : Hp} {Q : VK} (h : ∀ c, Q (.bl c) H) : rEq (.int x) (.int k) H Q := ⟨rfl, h _⟩
theorem rgt_any {x : Nat} {k : Int} {H : Hp} {Q : VK} (h : ∀ c, Q (.bl c) H) : (rI0 fun i j => .bl (decide (j < i))) (.int x) (.int k) H Q := ⟨_, _, rfl, rfl, h _⟩
end
section
variable {P : Program} {w : World} {K : PySem.W.Frag} {mg : Str → Option Value} {base : Heap}
/-! chosen -/
abbrev s_law_chosen : Stmt := topS 56
abbrev N_law_chosen : List Str := ["_law_draws_here", "_law_pool", "_law_least_here", "_law_found", "_law_at"]
theorem sc_law_chosen : FnScope N_law_chosen ["_law_draws_here", "_law_pool", "_law_least_here"] (defScope s_law_chosen) := ⟨rfl, rfl, rfl, by decide +kernel, rfl, by decide +kernel, by decide +kernel⟩
def ok_ch (ds : List D) : Prop := ∃ (ls : List (List Nat)) (k : Nat), ls.length < 1000 ∧ k ≤ ls.length ∧ ds = [lsD ls, iD k]
def p_chosen (ds : List D) (d : D) : Prop := ∀ (ls : List (List Nat)) (k : Nat), ds = [lsD ls, iD k] → ∃ ls' : List (List Nat), ls'.Sublist ls ∧ k ≤ ls'.length ∧ d = lsD ls'
theorem iD_inj {a b : Nat} (h : iD a = iD b) : a = b := by
  unfold iD at h
  injection h with h
  omega
theorem lsD_inj {a b : List (List Nat)} (h : lsD a = lsD b) : a = b := by
  unfold lsD at h
  injection h with h
  exact map_tD_inj.mp h
theorem ok_law_chosen {f : Addr} {fd : FuncData} (F : Fun K "_law_chosen" "_law_chosen" s_law_chosen f fd) (T : Txt mg) (c_law_pick : Cl P w K mg base 1 "_law_pick" (PickP K)) : FnOk P w K mg base CX0 2 f fd ["_law_draws_here", "_law_pool", "_law_least_here"] (DrawP K ok_ch p_chosen) := by
  refine draw_ok F sc_law_chosen (fun ds h => by obtain ⟨_, _, _, _, rfl⟩ := h; rfl) (by decide) fun cdv A outer s H E hr => ?_
  refine ⟨_, (pss_cons (ps_set (i := 3) sc_law_chosen.nd rfl (Or.inl rfl) (pe_lst pa_nil))
    (pss_cons (ps_for PassesOwn.never rfl (pi_range1 (by rfl) T.range (pa_cons (pe_callB (r := rLen K) call_lenY (by rfl) T.len PySem.boot_len (pa_cons (pv 1) pa_nil)) pa_nil)) (pg_name (i := 4) sc_law_chosen.nd rfl (Or.inl rfl))
    (pss_one (ps_if (pw_or (pt_cmpR op_eq (pe_cl c_law_pick hr (by decide) (by rfl) (pa_cons (pv 0) (pa_cons pe_int pa_nil))) pe_int (nomark _)) (pw_or1 (pt_cmpR op_le (pe_op op_sub (pe_op op_add (pe_callB (r := rLen K) call_lenY (by rfl) T.len PySem.boot_len (pa_cons (pv 3) pa_nil)) (pe_callB (r := rLen K) call_lenY (by rfl) T.len PySem.boot_len (pa_cons (pv 1) pa_nil))) (pv 4)) (pv 2) (nomark _)))).pt (pss_one (ps_expr (pe_bm PySem.F.plainAttrs_list PySem.F.slot_list_append PySem.F.type_list_append mt_append (pv 3) (pa_cons (pe_ix (r := rIxL K) ix_list (pv 1) (pv 4) (fun _ _ => rfl)) pa_nil)))) pss_nil)))
    (pss_one (ps_ret (pv 3))))), ?_⟩
  rintro ds p ⟨ls, k, hz, hk, rfl⟩ De o _ ns
  refine sd_seq (sd_asgO (ef_lst ea_nil) rfl fun q => sd_go ?_)
  refine sd_seq (sd_forRW (n := (ls.length : Int)) (fun j E => ∃ (ns : List Int) (fd : List (List Nat)), E = [dr p ns, .val (lsD ls), .val (iD k), .own q (fd.map tD), .no] ∧ fd.Sublist (ls.take j) ∧ k ≤ fd.length + (ls.length - j))
    (ea_cons (ep_cb (ea_cons (ep_var (d := .lst (ls.map tD)) rfl) ea_nil) rc_lenLn) ea_nil) (by omega) ⟨ns, [], rfl, by simp, by simpa using hk⟩ ?_ ?_)
  · rintro j E hj ⟨ns, fd, rfl, hs, hc⟩
    have hj' : j < ls.length := by omega
    have hd : DS (fun ns => [dr p ns, .val (lsD ls), .val (iD k), .own q (fd.map tD), .val (.int j)]) 0 p := ⟨fun _ => rfl, fun _ _ => rfl⟩
    have fl : fd.length ≤ j := by have := hs.length_le; simp at this; omega
    have hop := ent_or (K := K) (B := [p]) (H0 := H) (Z := fun _ => True) (S := fun ns => [dr p ns, .val (lsD ls), .val (iD k), .own q (fd.map tD), .val (.int j)]) (p := p) (P1 := fun _ => True) (P2 := fun b => b = decide (((fd.length : Int) + (ls.length : Int)) - (j : Int) ≤ (k : Int))) (P := fun b => b = false → k ≤ fd.length + (ls.length - (j + 1)))
      (ent_ev (P1 := fun d => ∃ b, d = .bl b) (en_op (P1 := fun d => ∃ x, x < 2 ∧ d = iD x) (P2 := fun _ d => d = iD 1) hd (en_pick (b := 2) hd (fun _ => ec_int) (by decide)) (fun _ _ => en_ec (d := iD 1) (fun _ => ec_int) hd rfl) (fun x y hx hy => by
        obtain ⟨a, _, rfl⟩ := hx
        subst hy
        exact ⟨_, r2_eqN, rfl, _, rfl⟩)) (fun d hd => by obtain ⟨b, rfl⟩ := hd; exact ⟨b, rfl, trivial⟩))
      (ent_et (fun ns => et_test (ep_op (ep_op (ep_op (ep_cb (ea_cons (ep_own (i := 3) (l := fd.map tD) rfl) ea_nil) rc_lenLn) (ep_cb (ea_cons (ep_var (i := 1) (d := .lst (ls.map tD)) rfl) ea_nil) rc_lenLn) r2_int) (ep_var (i := 4) rfl) r2_int) (ep_var (i := 2) (d := iD k) rfl) (r2_cmp (g := fun i j => decide (i ≤ j))))) rfl)
      (And.intro (fun _ h => Bool.noConfusion h) (fun b _ hb h => by
        subst hb
        have := of_decide_eq_false h
        omega))
    refine sd_ifN hop (fun _ ns => ?_) (fun hf ns => ?_) ns
    · refine sd_app (p := q) (i := 3) (l := fd.map tD) rfl (ep_op (ep_var (d := .lst (ls.map tD)) rfl) (ep_var rfl) (r2_ixL (d := tD ls[j]) ?_)) (tD_im _) (by rw [List.length_map]; omega) ?_
      · unfold atI ixN
        rw [List.length_map, if_pos (by omega), if_pos (by omega)]
        simp [hj']
      · refine sd_lw (E' := [dr p ns, .val (lsD ls), .val (iD k), .own q ((fd ++ [ls[j]]).map tD), .no]) ⟨ns, fd ++ [ls[j]], rfl, ?_, by rw [List.length_append]; simp; omega⟩ ?_
        · rw [List.take_add_one, List.getElem?_eq_getElem hj']
          exact hs.append (List.Sublist.refl _)
        · rw [List.map_append]
          exact .eq (.eq (.eq (.eq (.no .nil))))
    · exact sd_lw (E' := [dr p ns, .val (lsD ls), .val (iD k), .own q (fd.map tD), .no]) ⟨ns, fd, rfl, hs.trans (List.take_sublist_take_left (by omega)), hf rfl⟩ (.eq (.eq (.eq (.eq (.no .nil)))))
  · rintro E ⟨ns, fd, rfl, hs, hc⟩
    have e2 : ((ls.length : Int)).toNat = ls.length := by omega
    rw [e2] at hs hc
    rw [List.take_length] at hs
    have hd : DS (fun ns => [dr p ns, .val (lsD ls), .val (iD k), .own q (fd.map tD), .no]) 0 p := ⟨fun _ => rfl, fun _ _ => rfl⟩
    refine sd_go (sd_retDO (S := fun ns => [dr p ns, .val (lsD ls), .val (iD k), .own q (fd.map tD), .no]) (i := 0) (j := 3) hd rfl (by decide) o ?_)
    intro ls' k' e
    have h1 := List.cons.inj e
    have h2 := lsD_inj h1.1
    have h3 := iD_inj (List.cons.inj h1.2).1
    subst h2 h3
    exact ⟨fd, hs, by omega, rfl⟩
end
end Y
set_option Elab.async false
set_option linter.all false
set_option autoImplicit false
set_option maxRecDepth 100000
set_option maxHeartbeats 4000000
namespace Y
open PySem L2
section
variable {P : Program} {w : World} {K : PySem.W.Frag} {mg : Str → Option Value} {base : Heap}
/-! mixed_lots -/
abbrev s_law_mixed_lots : Stmt := topS 57
abbrev N_law_mixed_lots : List Str := ["_law_draws_here", "_law_size", "_law_found", "_law_turn", "_law_lot", "_law_thing"]
theorem sc_law_mixed_lots : FnScope N_law_mixed_lots ["_law_draws_here", "_law_size"] (defScope s_law_mixed_lots) := ⟨rfl, rfl, rfl, by decide +kernel, rfl, by decide +kernel, by decide +kernel⟩
/-- a lot over n things -/
structure Lot1 (n : Nat) (l : List Nat) : Prop where
  asc : KM.Asc l
  ne : l ≠ []
  lt : ∀ x ∈ l, x < n
def ok_mix (ds : List D) : Prop := ∃ n : Nat, 1 ≤ n ∧ n ≤ 12 ∧ ds = [iD n]
def p_mixed (ds : List D) (d : D) : Prop := ∀ n : Nat, ds = [iD n] → ∃ fs : List (List Nat), fs ≠ [] ∧ (∀ l ∈ fs, Lot1 n l) ∧ d = lsD (KM.leastL fs)
/-- a lot as it is drawn -/
structure Lot0 (n : Nat) (l : List Nat) : Prop where
  ne : l ≠ []
  lt : ∀ x ∈ l, x < n
  len : l.length ≤ 100
  nd : l.head? ≠ l.getLast? → l.Nodup
theorem Lot1.sm {n : Nat} {l : List Nat} (h : Lot1 n l) (hn : n ≤ 60) : Sm l := ⟨fun x hx => by have := h.lt x hx; omega, by have := asc_len h.asc h.lt; omega⟩
theorem nd_at {n : Nat} {l : List Nat} (h : Lot0 n l) (e : l.head? ≠ l.getLast?) : Lot1 n (KM.sortN l) := ⟨KM.sortN_nd (h.nd e), fun z => h.ne (by
  have := (KM.sortN_perm l).length_eq
  rw [z] at this
  exact List.length_eq_zero_iff.mp this.symm), fun x hx => h.lt x (KM.sortN_mem.mp hx)⟩
theorem ix_head {l : List Nat} (h : l ≠ []) : ∃ a, l.head? = some a ∧ atI (l.map iD) 0 = some (iD a) := by
  cases l with
  | nil => exact absurd rfl h
  | cons a l => exact ⟨a, rfl, by simp [atI, ixN]⟩
theorem ix_last {l : List Nat} (h : l ≠ []) : ∃ a, l.getLast? = some a ∧ atI (l.map iD) (-1) = some (iD a) := by
  refine ⟨l.getLast h, List.getLast?_eq_some_getLast h, ?_⟩
  have hl : 0 < l.length := List.length_pos_iff.mpr h
  unfold atI ixN
  rw [List.length_map, if_neg (by omega), if_pos (by omega)]
  have : ((-1 : Int) + (l.length : Int)).toNat = l.length - 1 := by omega
  rw [this]
  simp only [Option.bind_some, List.getElem?_map]
  rw [← List.getLast?_eq_getElem?, List.getLast?_eq_some_getLast h]
  rfl
theorem ok_law_mixed {f : Addr} {fd : FuncData} (F : Fun K "_law_mixed_lots" "_law_mixed_lots" s_law_mixed_lots f fd) (T : Txt mg) (c_law_pick : Cl P w K mg base 1 "_law_pick" (PickP K)) (c_law_least : Cl P w K mg base 2 "_law_least" (Fresh K p_law_least)) :
    FnOk P w K mg base CX0 3 f fd ["_law_draws_here", "_law_size"] (DrawP K ok_mix p_mixed) := by
  refine draw_ok F sc_law_mixed_lots (fun ds h => by obtain ⟨_, _, _, rfl⟩ := h; rfl) (by decide) fun cdv A outer s H E hr => ?_
  refine ⟨_, (pss_cons (ps_set (i := 2) sc_law_mixed_lots.nd rfl (Or.inl rfl) (pe_lst pa_nil))
    (pss_cons (ps_for PassesOwn.never rfl (pi_range1 (by rfl) T.range (pa_cons (pe_op op_add pe_int (pe_cl c_law_pick hr (by decide) (by rfl) (pa_cons (pv 0) (pa_cons pe_int pa_nil)))) pa_nil)) (pg_name (i := 3) sc_law_mixed_lots.nd rfl (Or.inl rfl))
    (pss_cons (ps_setLc (i := 4) (own := [("_law_thing", 5)]) (g := gName 5) rfl sc_law_mixed_lots.nd rfl rfl (sw_true rfl rfl rfl (by decide +kernel)) (pi_range1 (by rfl) T.range (pa_cons (pv 1) pa_nil)) (blkOk_by (N := N_law_mixed_lots) (sc := defScope s_law_mixed_lots) (by decide +kernel)) (fun _ _ _ _ _ => pg_name (i := 5) sc_law_mixed_lots.nd rfl (Or.inl rfl)) (fun _ _ _ _ _ => (pts_one (pt_cmpR op_eq (pe_cl c_law_pick hr (by decide) (by rfl) (pa_cons (pv 0) (pa_cons pe_int pa_nil))) pe_int (nomark _)))) (fun _ _ _ _ _ => (pv 5)))
    (pss_cons (ps_if (pt_cmpR op_eq (pe_callB (r := rLen K) call_lenY (by rfl) T.len PySem.boot_len (pa_cons (pv 4) pa_nil)) pe_int (nomark _)) (pss_one (ps_set (i := 4) sc_law_mixed_lots.nd rfl (Or.inl rfl) (pe_lst (pa_cons (pe_cl c_law_pick hr (by decide) (by rfl) (pa_cons (pv 0) (pa_cons (pv 1) pa_nil))) (pa_cons (pe_op op_sub (pv 1) pe_int) pa_nil))))) pss_nil)
    (pss_cons (ps_if (pt_cmpR op_eq (pe_ix (r := rIxL K) ix_list (pv 4) pe_int (fun _ _ => rfl)) (pe_ix (r := rIxL K) ix_list (pv 4) (pe_un un_neg pe_int) (fun _ _ => rfl)) (nomark _)) (pss_one (ps_set (i := 4) sc_law_mixed_lots.nd rfl (Or.inl rfl) (pe_lst (pa_cons (pe_ix (r := rIxL K) ix_list (pv 4) pe_int (fun _ _ => rfl)) pa_nil)))) pss_nil)
    (pss_one (ps_expr (pe_bm PySem.F.plainAttrs_list PySem.F.slot_list_append PySem.F.type_list_append mt_append (pv 2) (pa_cons (pe_callTy (r := rTupOf K) call_tupY (by rfl) T.tuple (by decide +kernel) (pa_cons (pe_callB (r := rSortedI K) cr_sortedI (by rfl) T.sorted (by decide +kernel) (pa_cons (pv 4) pa_nil)) pa_nil)) pa_nil))))))))
    (pss_one (ps_ret (pe_cl c_law_least hr (by decide) (by rfl) (pa_cons (pv 2) pa_nil)))))), ?_⟩
  rintro ds p ⟨n, hn, hn2, rfl⟩ De o _ ns
  refine sd_seq (sd_asgO (ef_lst ea_nil) rfl fun q => sd_go ?_)
  have hd : DS (fun ns => [dr p ns, .val (iD n), .own q [], .no, .no, .no]) 0 p := ⟨fun _ => rfl, fun _ _ => rfl⟩
  refine sd_seq (sd_forN (S := fun ns => [dr p ns, .val (iD n), .own q [], .no, .no, .no]) (P := fun z => 3 ≤ z ∧ z ≤ 5) hd
    (en_op (P1 := fun d => d = iD 3) (P2 := fun _ d => ∃ x, x < 3 ∧ d = iD x) hd (en_ec (d := iD 3) (fun _ => ec_int) hd rfl) (fun _ _ => en_pick (b := 3) hd (fun _ => ec_int) (by decide)) (fun x y hx hy => by
      obtain ⟨a, ha, rfl⟩ := hy
      subst hx
      exact ⟨_, r2_int (g := fun i j => i + j), rfl, _, rfl, ⟨by omega, by omega⟩, by omega, by omega⟩))
    (fun j E => ∃ (ns : List Int) (fs : List (List Nat)), E = [dr p ns, .val (iD n), .own q (fs.map tD), .no, .no, .no] ∧ fs.length = j ∧ ∀ l ∈ fs, Lot1 n l) (fun ns => ⟨ns, [], rfl, rfl, by simp⟩) ?_ ?_ ns)
  · rintro z j E hz hj ⟨ns, fs, rfl, hfl, hfs⟩
    have hd1 : DS (fun ns => [dr p ns, .val (iD n), .own q (fs.map tD), .val (.int j), .no, .no]) 0 p := ⟨fun _ => rfl, fun _ _ => rfl⟩
    refine sd_seq (sd_asgN hd1 (en_lcD (i := 0) (n := (n : Int)) hd1 (by decide) (fun _ => by show 5 < 6; decide) (fun _ => ea_cons (ep_var (d := iD n) rfl) ea_nil) (by omega) (dt_pick (b := 2) (by decide) fun x H Q h => req_any h)) (fun d ns hdp => sd_go ?_) ns)
    obtain ⟨xs, hxs, hxl, rfl⟩ := hdp
    have hxa : KM.Asc xs := hxs
    have hxl' : ∀ x ∈ xs, x < n := fun x hx => by have := hxl x hx; omega
    -- what follows, from a lot as drawn
    have fin : ∀ (ns : List Int) (l : List Nat), Lot0 n l → SD K [p] H (fun _ => True) (tSeq
        (tIfS (tTest (tOp rEq (tOp (rIxL K) (tVar 4) (tC (.int 0))) (tOp (rIxL K) (tVar 4) (tUn (rU fun i => .int (-i)) (tC (.int 1)))))) (tAsg (tLst (tCons (tOp (rIxL K) (tVar 4) (tC (.int 0))) tNil)) (gName 4)) tNext)
        (tDrop (tBM K "list" rAppend (tVar 2) (tCons (tCB (rTupOf K) (tCons (tCB (rSortedI K) (tCons (tVar 4) tNil)) tNil)) tNil))))
        (LW K [p] H (fun _ => True) { nx := fun σ H => (tRet (tCall (Fresh K p_law_least) [] E0 (tCons (tVar 2) tNil))) De σ H, rt := De.rt, bk := De.bk, ct := De.ct } (fun E => ∃ (ns : List Int) (fs : List (List Nat)), E = [dr p ns, .val (iD n), .own q (fs.map tD), .no, .no, .no] ∧ fs.length = j + 1 ∧ ∀ l ∈ fs, Lot1 n l))
        [dr p ns, .val (iD n), .own q (fs.map tD), .val (.int j), .val (.lst (l.map iD)), .no] := fun ns l hl => by
      obtain ⟨a, ha1, ha2⟩ := ix_head hl.ne
      obtain ⟨b, hb1, hb2⟩ := ix_last hl.ne
      have app : ∀ (m : List Nat), Lot1 n (KM.sortN m) → SD K [p] H (fun _ => True) (tDrop (tBM K "list" rAppend (tVar 2) (tCons (tCB (rTupOf K) (tCons (tCB (rSortedI K) (tCons (tVar 4) tNil)) tNil)) tNil)))
          (LW K [p] H (fun _ => True) { nx := fun σ H => (tRet (tCall (Fresh K p_law_least) [] E0 (tCons (tVar 2) tNil))) De σ H, rt := De.rt, bk := De.bk, ct := De.ct } (fun E => ∃ (ns : List Int) (fs : List (List Nat)), E = [dr p ns, .val (iD n), .own q (fs.map tD), .no, .no, .no] ∧ fs.length = j + 1 ∧ ∀ l ∈ fs, Lot1 n l))
          [dr p ns, .val (iD n), .own q (fs.map tD), .val (.int j), .val (.lst (m.map iD)), .no] := fun m hm => by
        refine sd_app (p := q) (i := 2) (l := fs.map tD) (d := tD (KM.sortN m)) rfl (ep_is (ep_cb (ea_cons (EF.p (ef_cb (ea_cons (ep_var (i := 4) (d := .lst (m.map iD)) rfl) ea_nil) rf_sortedN)) ea_nil) rc_tupleL) (by rw [tD_eq])) (tD_im _) (by rw [List.length_map]; omega) ?_
        refine sd_lw (E' := [dr p ns, .val (iD n), .own q ((fs ++ [KM.sortN m]).map tD), .no, .no, .no]) ⟨ns, fs ++ [KM.sortN m], rfl, by simp [hfl], fun l hl => ?_⟩ ?_
        · rcases List.mem_append.mp hl with hl | hl
          · exact hfs l hl
          · have : l = KM.sortN m := by simpa using hl
            rw [this]; exact hm
        · rw [List.map_append]
          exact .eq (.eq (.eq (.no (.no (.eq .nil)))))
      refine sd_seq (sd_if (et_test (ep_op (ep_op (ep_var (d := .lst (l.map iD)) rfl) ep_int (r2_ixL ha2)) (ep_op (ep_var (d := .lst (l.map iD)) rfl) (ep_un (x := .int 1) ep_int r1_neg) (r2_ixL hb2)) r2_eqN)) (fun h => ?_) (fun h => ?_))
      · refine sd_asgL (ef_lst (ea_cons (ep_op (ep_var (d := .lst (l.map iD)) rfl) ep_int (r2_ixL ha2)) ea_nil)) rfl (sd_go (app [a] ?_))
        have ham : a ∈ l := List.mem_of_mem_head? ha1
        have e1 : KM.sortN [a] = [a] := sortN_asc (List.pairwise_singleton _ _)
        rw [e1]
        exact ⟨List.pairwise_singleton _ _, by simp, fun x hx => by simp at hx; rw [hx]; exact hl.lt a ham⟩
      · refine sd_go (app l (nd_at hl ?_))
        rw [ha1, hb1]
        intro z
        have : a = b := Option.some.inj z
        rw [this] at h
        simp at h
    refine sd_seq (sd_if (et_test (ep_op (ep_cb (ea_cons (ep_var (i := 4) (d := .lst (xs.map iD)) rfl) ea_nil) rc_lenLn) ep_n0 r2_eqN)) (fun h => ?_) (fun h => ?_))
    · have hd2 : DS (fun ns => [dr p ns, .val (iD n), .own q (fs.map tD), .val (.int j), .val (.lst (xs.map iD)), .no]) 0 p := ⟨fun _ => rfl, fun _ _ => rfl⟩
      refine sd_asgN hd2 (en_lst (PA := fun l => ∃ x, x < n ∧ l = [iD x, iD (n - 1)]) (P := fun d => ∃ x, x < n ∧ d = .lst ([x, n - 1].map iD)) hd2 (ena_cons (P1 := fun d => ∃ x, x < n ∧ d = iD x) (P2 := fun _ l => l = [iD (n - 1)]) hd2 (en_pick (b := n) hd2 (fun _ => ec_var (d := iD n) rfl) hn)
        (fun _ _ => ena_cons (P1 := fun d => d = iD (n - 1)) (P2 := fun _ l => l = []) hd2 (en_ec (d := iD (n - 1)) (fun _ => ec_im (ep_is (ep_op (ep_var (d := iD n) rfl) ep_n1 r2_int) (by show D.int ((n : Int) - 1) = D.int ((n - 1 : Nat) : Int); congr 1; omega)) rfl) hd2 rfl) (fun _ _ => ena_nil hd2 rfl) (fun d l h1 h2 => by rw [h1, h2]))
        (fun d l h1 h2 => by obtain ⟨x, hx, rfl⟩ := h1; exact ⟨x, hx, by rw [h2]⟩)) (fun l hl => by obtain ⟨x, _, rfl⟩ := hl; simp) (fun l hl => by obtain ⟨x, hx, rfl⟩ := hl; exact ⟨x, hx, rfl⟩)) (fun d ns hdp => sd_go ?_) ns
      obtain ⟨x, hx, rfl⟩ := hdp
      refine fin ns [x, n - 1] ⟨by simp, fun y hy => ?_, by simp, fun hne => ?_⟩
      · simp at hy
        omega
      · simp at hne ⊢
        omega
    · have hne : xs ≠ [] := fun z => by rw [z] at h; cases h
      refine sd_go (fin ns xs ⟨hne, hxl', by have := asc_len hxa hxl'; omega, fun _ => hxa.imp fun h => Nat.ne_of_lt h⟩)
  · rintro z E hz h0 ⟨ns, fs, rfl, hfl, hfs⟩
    have hd1 : DS (fun ns => [dr p ns, .val (iD n), .own q (fs.map tD), .no, .no, .no]) 0 p := ⟨fun _ => rfl, fun _ _ => rfl⟩
    have hl5 : fs.length ≤ 5 := by omega
    refine sd_go (sd_retD (S := fun ns => [dr p ns, .val (iD n), .own q (fs.map tD), .no, .no, .no]) hd1 (ec_new (ef_call (ea_cons (ep_own (i := 2) (l := fs.map tD) rfl) ea_nil) ⟨fs, ⟨by omega, fun l hl => (hfs l hl).sm (by omega)⟩, fun l hl => (hfs l hl).ne, rfl, rfl⟩) (imAll_tD _)) o ?_)
    intro n' e
    have := iD_inj (List.cons.inj e).1
    subst this
    exact ⟨fs, fun z => by rw [z] at hfl; simp at hfl; omega, hfs, rfl⟩
end
end Y
set_option Elab.async false
set_option linter.all false
set_option autoImplicit false
set_option maxRecDepth 100000
set_option maxHeartbeats 4000000
namespace Y
open PySem L2
section
variable {P : Program} {w : World} {K : PySem.W.Frag} {mg : Str → Option Value} {base : Heap}
/-! moved -/
abbrev s_law_moved : Stmt := topS 58
abbrev N_law_moved : List Str := ["_law_draws_here", "_law_size", "_law_lots", "_law_left", "_law_names", "_law_turn", "_law_found", "_law_lot", "_law_thing"]
theorem sc_law_moved : FnScope N_law_moved ["_law_draws_here", "_law_size", "_law_lots"] (defScope s_law_moved) := ⟨rfl, rfl, rfl, by decide +kernel, rfl, by decide +kernel, by decide +kernel⟩
def ok_mov (ds : List D) : Prop := ∃ (n : Nat) (ls : List (List Nat)), n ≤ 12 ∧ ls.length < 1000 ∧ (∀ l ∈ ls, Lot1 n l) ∧ ds = [iD n, lsD ls]
def mv (names : List Nat) (l : List Nat) : List Nat := KM.sortN (l.map fun t => names.getD t 0)
def p_moved (ds : List D) (d : D) : Prop := ∀ (n : Nat) (ls : List (List Nat)), ds = [iD n, lsD ls] → ∃ names : List Nat, names.Perm (List.range n) ∧ d = lsD (KM.srt (ls.map (mv names)))
theorem ers_perm : ∀ (l : List Nat) (x : Nat) (h : x < l.length), (l[x] :: l.eraseIdx x).Perm l
  | a :: l, 0, _ => List.Perm.refl _
  | a :: l, x + 1, h => (List.Perm.swap a _ _).trans ((ers_perm l x (by simpa using h)).cons a)
theorem perm_pick {names left : List Nat} {n x : Nat} (h : (names ++ left).Perm (List.range n)) (hx : x < left.length) : ((names ++ [left[x]]) ++ left.eraseIdx x).Perm (List.range n) := by
  have h1 : (left[x] :: left.eraseIdx x).Perm left := ers_perm left x hx
  rw [List.append_assoc]
  exact ((List.Perm.refl names).append h1).trans h
theorem ok_law_moved {f : Addr} {fd : FuncData} (F : Fun K "_law_moved" "_law_moved" s_law_moved f fd) (T : Txt mg) (c_law_pick : Cl P w K mg base 1 "_law_pick" (PickP K)) : FnOk P w K mg base CX0 2 f fd ["_law_draws_here", "_law_size", "_law_lots"] (DrawP K ok_mov p_moved) := by
  refine draw_ok F sc_law_moved (fun ds h => by obtain ⟨_, _, _, _, _, rfl⟩ := h; rfl) (by decide) fun cdv A outer s H E hr => ?_
  have hu := hr.units
  refine ⟨_, (pss_cons (ps_set (i := 3) sc_law_moved.nd rfl (Or.inl rfl) (pe_listRg rfl (by rfl) T.list (prg_1 (by rfl) T.range (pv 1))))
    (pss_cons (ps_set (i := 4) sc_law_moved.nd rfl (Or.inr rfl) (pe_lst pa_nil))
    (pss_cons (ps_for PassesOwn.never rfl (pi_range1 (by rfl) T.range (pa_cons (pv 1) pa_nil)) (pg_name (i := 5) sc_law_moved.nd rfl (Or.inl rfl))
    (pss_one (ps_expr (pe_bm PySem.F.plainAttrs_list PySem.F.slot_list_append PySem.F.type_list_append mt_append (pv 4) (pa_cons (pe_bm PySem.F.plainAttrs_list PySem.F.slot_list_pop PySem.F.type_list_pop mt_popAt (pv 3) (pa_cons (pe_cl c_law_pick hr (by decide) (by rfl) (pa_cons (pv 0) (pa_cons (pe_callB (r := rLen K) call_lenY (by rfl) T.len PySem.boot_len (pa_cons (pv 3) pa_nil)) pa_nil))) pa_nil)) pa_nil)))))
    (pss_cons (ps_set (i := 6) sc_law_moved.nd rfl (Or.inl rfl) (pe_lst pa_nil))
    (pss_cons (ps_for PassesOwn.never rfl (pi_list (pv 2)) (pg_name (i := 7) sc_law_moved.nd rfl (Or.inl rfl))
    (pss_one (ps_expr (pe_bm PySem.F.plainAttrs_list PySem.F.slot_list_append PySem.F.type_list_append mt_append (pv 6) (pa_cons (pe_callTy (r := rTupOf K) call_tupY (by rfl) T.tuple (by decide +kernel) (pa_cons (pe_callB (r := rSortedI K) cr_sortedI (by rfl) T.sorted (by decide +kernel) (pa_cons (pe_lc (own := [("_law_thing", 8)]) (g := gName 8) rfl sc_law_moved.nd (pi_tup (pv 7)) (blkOk_by (N := N_law_moved) (sc := defScope s_law_moved) (by decide +kernel)) (fun _ _ _ _ _ => pg_name (i := 8) sc_law_moved.nd rfl (Or.inl rfl)) (fun _ _ _ _ _ => pts_nil) (fun _ _ _ _ _ => (pe_ix (r := rIxL K) ix_list (pv 4) (pv 8) (fun _ _ => rfl)))) pa_nil)) pa_nil)) pa_nil)))))
    (pss_one (ps_ret (pe_callB (r := rSortY K) (cr_sortY hu) (by rfl) T.sorted (by decide +kernel) (pa_cons (pv 6) pa_nil))))))))), ?_⟩
  rintro ds p ⟨n, ls, hn, hz, hls, rfl⟩ De o _ ns
  refine sd_seq (sd_asgO (l := (List.range n).map iD) (ef_is (ef_lstRg1 (ep_var (d := iD n) rfl) (by omega)) (by rw [show ((n : Int)).toNat = n by omega])) (imAll_nD _) fun q1 => sd_go ?_)
  refine sd_seq (sd_asgO (ef_lst ea_nil) rfl fun q2 => sd_go ?_)
  refine sd_seq (sd_forRW (n := (n : Int)) (fun j E => ∃ (ns : List Int) (left names : List Nat), E = [dr p ns, .val (iD n), .val (lsD ls), .own q1 (left.map iD), .own q2 (names.map iD), .no, .no, .no, .no] ∧ names.length = j ∧ (names ++ left).Perm (List.range n))
    (ea_cons (ep_var (d := iD n) rfl) ea_nil) (by omega) ⟨ns, List.range n, [], rfl, rfl, by simp⟩ ?_ ?_)
  · rintro j E hj ⟨ns, left, names, rfl, hnl, hp⟩
    have hlen : left.length = n - j := by
      have := hp.length_eq
      rw [List.length_append, List.length_range] at this
      omega
    have hd : DS (fun ns => [dr p ns, .val (iD n), .val (lsD ls), .own q1 (left.map iD), .own q2 (names.map iD), .val (.int j), .no, .no, .no]) 0 p := ⟨fun _ => rfl, fun _ _ => rfl⟩
    refine sd_appPop (S := fun ns => [dr p ns, .val (iD n), .val (lsD ls), .own q1 (left.map iD), .own q2 (names.map iD), .val (.int j), .no, .no, .no]) (jl := 3) (jn := 4) hd (fun _ => rfl) (fun _ => rfl) (by decide)
      (en_pick (b := left.length) hd (fun _ => ec_im (ep_cb (ea_cons (ep_own (i := 3) (l := left.map iD) rfl) ea_nil) rc_lenLn) rfl) (by omega)) ⟨by omega, by omega⟩ (fun ns x hx => ?_) ns
    refine sd_lw (E' := [dr p ns, .val (iD n), .val (lsD ls), .own q1 ((left.eraseIdx x).map iD), .own q2 ((names ++ [left[x]]).map iD), .no, .no, .no, .no]) ⟨ns, _, _, rfl, by simp [hnl], perm_pick hp hx⟩ ?_
    exact .eq (.eq (.eq (.eq (.eq (.no (.eq (.eq (.eq .nil))))))))
  · rintro E ⟨ns, left, names, rfl, hnl, hp⟩
    have hnl' : names.length = n := by omega
    have hleft : left = [] := by
      have := hp.length_eq
      rw [List.length_append, List.length_range] at this
      exact List.length_eq_zero_iff.mp (by omega)
    have hpn : names.Perm (List.range n) := by
      rw [hleft, List.append_nil] at hp
      exact hp
    refine sd_go (sd_seq (sd_asgO (ef_lst ea_nil) rfl fun q3 => sd_go ?_))
    refine sd_seq (sd_forLP (c := tD) (ts := ls) (fun _ => True) (ec_var rfl) (fun i => [dr p ns, .val (iD n), .val (lsD ls), .own q1 (left.map iD), .own q2 (names.map iD), .no, .own q3 (((ls.take i).map (mv names)).map tD), .no, .no]) rfl trivial (fun Z' i l hl _ => ?_) (fun _ => sd_go ?_))
    · have hlm : l ∈ ls := List.mem_of_getElem? hl
      have hl1 := hls l hlm
      have hi : i < ls.length := (List.getElem?_eq_some_iff.mp hl).1
      have hc : EF K [p] H Z' (tLc (iTup K (tVar 7)) (gName 8) tYes (tOp (rIxL K) (tVar 4) (tVar 8)) [8]) [dr p ns, .val (iD n), .val (lsD ls), .own q1 (left.map iD), .own q2 (names.map iD), .no, .own q3 (((ls.take i).map (mv names)).map tD), .val (tD l), .no] ((l.map fun t => names.getD t 0).map iD) := by
        have e9 : ((l.map fun t => names.getD t 0).map iD) = l.map fun t => iD (names.getD t 0) := by rw [List.map_map]; rfl
        rw [e9]
        refine ef_lcT1 (E := [dr p ns, .val (iD n), .val (lsD ls), .own q1 (left.map iD), .own q2 (names.map iD), .no, .own q3 (((ls.take i).map (mv names)).map tD), .val (tD l), .no]) (j := 8) (c := iD) (ts := l) (fun t => iD (names.getD t 0)) (ep_is (ep_var (i := 7) (d := tD l) rfl) (tD_eq l)) (fun _ _ => rfl) (by have := (hl1.sm (by omega)).len; omega) (fun t ht => ep_op (ep_own (i := 4) (l := names.map iD) rfl) (ep_var (i := 8) (d := iD t) rfl) (r2_ixL ?_)) (fun _ _ => rfl)
        have htl : t < names.length := by rw [hnl']; exact hl1.lt t ht
        unfold atI ixN
        rw [List.length_map, if_pos (by omega), if_pos (by omega)]
        simp [htl, List.getD]
      refine sd_app (p := q3) (i := 6) (l := ((ls.take i).map (mv names)).map tD) (d := tD (mv names l)) rfl (ep_is (ep_cb (ea_cons (EF.p (ef_cb (ea_cons (EF.p hc) ea_nil) rf_sortedN)) ea_nil) rc_tupleL) (by rw [tD_eq]; rfl)) (tD_im _) (by rw [List.length_map, List.length_map, List.length_take]; omega) (sd_lp trivial ?_)
      rw [take_step hl, List.map_append, List.map_append]
      exact .eq (.eq (.eq (.eq (.eq (.eq (.eq (.no (.eq .nil))))))))
    · rw [List.take_length]
      have hd : DS (fun ns => [dr p ns, .val (iD n), .val (lsD ls), .own q1 (left.map iD), .own q2 (names.map iD), .no, .own q3 ((ls.map (mv names)).map tD), .no, .no]) 0 p := ⟨fun _ => rfl, fun _ _ => rfl⟩
      refine sd_retD (S := fun ns => [dr p ns, .val (iD n), .val (lsD ls), .own q1 (left.map iD), .own q2 (names.map iD), .no, .own q3 ((ls.map (mv names)).map tD), .no, .no]) hd (ec_new (ef_cb (ea_cons (ep_own (i := 6) (l := (ls.map (mv names)).map tD) rfl) ea_nil) (rf_sortY (ts := ls.map (mv names)) (.inr fun t ht => ?_))) (imAll_tD _)) o ?_
      · obtain ⟨l, hl, rfl⟩ := List.mem_map.mp ht
        intro z
        have := (KM.sortN_perm (l.map fun t => names.getD t 0)).length_eq
        have z' : KM.sortN (l.map fun t => names.getD t 0) = [] := z
        rw [z', List.length_map] at this
        exact (hls l hl).ne (List.length_eq_zero_iff.mp this.symm)
      · intro n' ls' e
        have h1 := iD_inj (List.cons.inj e).1
        have h2 := lsD_inj (List.cons.inj (List.cons.inj e).2).1
        subst h1 h2
        exact ⟨names, hpn, rfl⟩
end
end Y
set_option Elab.async false
set_option linter.all false
set_option autoImplicit false
set_option maxRecDepth 100000
set_option maxHeartbeats 4000000
namespace Y
open PySem L2
section
variable {K : PySem.W.Frag} {B : List Addr} {H0 : Hp} {Z : Hp → Prop} {E : List Slot} {S : List Int → List Slot} {i : Nat} {p : Addr} {te : TE}
/-- [n, lots] -/
def famL (n : Nat) (ls : List (List Nat)) : D := .lst [iD n, lsD ls]
def Fam (d : D) : Prop := ∃ (n : Nat) (ls : List (List Nat)), KM.GF n ls ∧ n ≤ 6 ∧ d = famL n ls
theorem gf_lot1 {n : Nat} {ls : List (List Nat)} (g : KM.GF n ls) : ∀ l ∈ ls, Lot1 n l := fun l hl => ⟨g.g.asc l hl, g.lne l hl, g.lt l hl⟩
theorem gf_small {n : Nat} {ls : List (List Nat)} (g : KM.GF n ls) (hn : n ≤ 7) : ls.length ≤ 128 := Nat.le_trans (KM.gf_len g) (by
  calc 2 ^ n ≤ 2 ^ 7 := Nat.pow_le_pow_right (by decide) hn
    _ = 128 := by decide)
theorem gf_LL {n : Nat} {ls : List (List Nat)} (g : KM.GF n ls) (hn : n ≤ 7) : LL ls := ⟨by have := gf_small g hn; omega, fun l hl => (gf_lot1 g l hl).sm (by omega)⟩
theorem et_eqN {a : Nat} {b : Int} {k : Nat} {j : Nat} (h : E[j]? = some (.val (iD a))) (e : b = (k : Int)) : ET K B H0 Z (tTest (tOp rEq (tVar j) (tC (.int b)))) E (a == k) := by
  subst e
  exact et_test (ep_op (ep_var h) (ep_int (i := (k : Int))) r2_eqN)
theorem et_in2 {a k1 k2 : Nat} {b1 b2 : Int} {j : Nat} (h : E[j]? = some (.val (iD a))) (e1 : b1 = (k1 : Int)) (e2 : b2 = (k2 : Int)) : ET K B H0 Z (tTest (tOp (rIn K false) (tVar j) (tTup (tCons (tC (.int b1)) (tCons (tC (.int b2)) tNil))))) E (decide ((a : Int) ∈ [b1, b2])) :=
  et_test (ep_op (ep_var h) (ep_tup (ea_cons ep_int (ea_cons ep_int ea_nil))) (r2_inI (i := (a : Int)) (ns := [b1, b2]) (.inl rfl)))
/-- [n, lots] of a number and a new list of lots -/
theorem ec_fam {ta tb : TE} {n : Nat} {ls : List (List Nat)} (ha : EC K B H0 Z ta E (iD n)) (hb : EC K B H0 Z tb E (lsD ls)) : EC K B H0 Z (tLst (tCons ta (tCons tb tNil))) E (famL n ls) := ec_lst (eac_cons ha (eac_cons hb eac_nil))
theorem en_fam {ta tb : TE} {PA : D → Prop} {PB : D → D → Prop} {P : D → Prop} (hd : DS S i p) (ha : EN K B H0 Z ta S p PA) (hb : ∀ d, PA d → EN K B H0 Z tb S p (PB d)) (hP : ∀ d d', PA d → PB d d' → P (.lst [d, d'])) : EN K B H0 Z (tLst (tCons ta (tCons tb tNil))) S p P :=
  en_lst (PA := fun l => ∃ d d', PA d ∧ PB d d' ∧ l = [d, d']) hd (ena_cons (P2 := fun d l => ∃ d', PB d d' ∧ l = [d']) hd ha (fun d pd => ena_cons (P2 := fun _ l => l = []) hd (hb d pd) (fun _ _ => ena_nil hd rfl) (fun d' l h1 h2 => ⟨d', h1, by rw [h2]⟩)) (fun d l h1 h2 => by obtain ⟨d', h3, rfl⟩ := h2; exact ⟨d, d', h1, h3, rfl⟩))
    (fun l h => by obtain ⟨_, _, _, _, rfl⟩ := h; simp) (fun l h => by obtain ⟨d, d', h1, h2, rfl⟩ := h; exact hP d d' h1 h2)
theorem nil_eq {α : Type} {l : List α} (h : l = []) : l = [] := h
end
section
variable {P : Program} {w : World} {K : PySem.W.Frag} {mg : Str → Option Value} {base : Heap}
def ok_0 (ds : List D) : Prop := ds = []
def p_fam (_ : List D) (d : D) : Prop := Fam d
/-! small -/
abbrev s_law_small : Stmt := topS 59
abbrev N_law_small : List Str := ["_law_draws_here", "_law_word", "_law_size"]
theorem sc_law_small : FnScope N_law_small ["_law_draws_here"] (defScope s_law_small) := ⟨rfl, rfl, rfl, by decide +kernel, rfl, by decide +kernel, by decide +kernel⟩
theorem ok_law_small {f : Addr} {fd : FuncData} (F : Fun K "_law_small" "_law_small" s_law_small f fd) (T : Txt mg) (c_law_pick : Cl P w K mg base 1 "_law_pick" (PickP K)) (c_law_sized : Cl P w K mg base 2 "_law_sized" (Fresh K p_law_sized)) (c_law_mixed_lots : Cl P w K mg base 3 "_law_mixed_lots" (DrawP K ok_mix p_mixed))
    (c_law_fan : Cl P w K mg base 1 "_law_fan" (Fresh K p_law_fan)) (c_law_chosen : Cl P w K mg base 2 "_law_chosen" (DrawP K ok_ch p_chosen)) : FnOk P w K mg base CX0 4 f fd ["_law_draws_here"] (DrawP K ok_0 p_fam) := by
  refine draw_ok F sc_law_small (fun ds h => by cases h; rfl) (by decide) fun cdv A outer s H E hr => ?_
  have hu := hr.units
  refine ⟨_, (pss_cons (ps_set (i := 1) sc_law_small.nd rfl (Or.inl rfl) (pe_cl c_law_pick hr (by decide) (by rfl) (pa_cons (pv 0) (pa_cons pe_int pa_nil))))
    (pss_cons (ps_if (pt_cmpR (r := rIn K false) op_in_seq (pv 1) (pe_tup (pa_cons pe_int (pa_cons pe_int pa_nil))) rfl) (pss_one (ps_ret (pe_lst (pa_cons pe_int (pa_cons (pe_cl c_law_sized hr (by decide) (by rfl) (pa_cons pe_int (pa_cons pe_int pa_nil))) pa_nil))))) pss_nil)
    (pss_cons (ps_if (pt_cmpR op_eq (pv 1) pe_int (nomark _)) (pss_cons (ps_set (i := 2) sc_law_small.nd rfl (Or.inl rfl) (pe_op op_add pe_int (pe_cl c_law_pick hr (by decide) (by rfl) (pa_cons (pv 0) (pa_cons pe_int pa_nil)))))
    (pss_one (ps_ret (pe_lst (pa_cons (pv 2) (pa_cons (pe_cl c_law_mixed_lots hr (by decide) (by rfl) (pa_cons (pv 0) (pa_cons (pv 2) pa_nil))) pa_nil)))))) pss_nil)
    (pss_cons (ps_if (pt_cmpR op_eq (pv 1) pe_int (nomark _)) (pss_one (ps_ret (pe_lst (pa_cons pe_int (pa_cons (pe_callB (r := rSortY K) (cr_sortY hu) (by rfl) T.sorted (by decide +kernel) (pa_cons (pe_lst (pa_cons (pe_tup (pa_cons pe_int (pa_cons pe_int pa_nil))) (pa_cons (pe_tup (pa_cons pe_int (pa_cons pe_int pa_nil))) (pa_cons (pe_tup (pa_cons pe_int (pa_cons pe_int pa_nil))) (pa_cons (pe_tup (pa_cons pe_int (pa_cons pe_int pa_nil))) pa_nil))))) pa_nil)) pa_nil))))) pss_nil)
    (pss_cons (ps_if (pt_cmpR op_eq (pv 1) pe_int (nomark _)) (pss_one (ps_ret (pe_lst (pa_cons pe_int (pa_cons (pe_cl c_law_fan hr (by decide) (by rfl) (pa_cons pe_int pa_nil)) pa_nil))))) pss_nil)
    (pss_cons (ps_if (pt_cmpR op_eq (pv 1) pe_int (nomark _)) (pss_one (ps_ret (pe_lst (pa_cons pe_int (pa_cons (pe_cl c_law_sized hr (by decide) (by rfl) (pa_cons pe_int (pa_cons (pe_op op_add pe_int (pe_cl c_law_pick hr (by decide) (by rfl) (pa_cons (pv 0) (pa_cons pe_int pa_nil)))) pa_nil))) pa_nil))))) pss_nil)
    (pss_cons (ps_if (pt_cmpR op_eq (pv 1) pe_int (nomark _)) (pss_one (ps_ret (pe_lst (pa_cons pe_int (pa_cons (pe_cl c_law_chosen hr (by decide) (by rfl) (pa_cons (pv 0) (pa_cons (pe_cl c_law_sized hr (by decide) (by rfl) (pa_cons pe_int (pa_cons pe_int pa_nil))) (pa_cons pe_int pa_nil)))) pa_nil))))) pss_nil)
    (pss_one (ps_ret (pe_lst (pa_cons (pe_op op_add pe_int (pe_cl c_law_pick hr (by decide) (by rfl) (pa_cons (pv 0) (pa_cons pe_int pa_nil)))) (pa_cons (pe_lst (pa_cons (pe_tup (pa_cons pe_int pa_nil)) pa_nil)) pa_nil)))))))))))), ?_⟩
  rintro ds p rfl De o _ ns
  have hd0 : DS (fun ns => [dr p ns, .no, .no]) 0 p := ⟨fun _ => rfl, fun _ _ => rfl⟩
  refine sd_seq (sd_asgN (S := fun ns => [dr p ns, .no, .no]) hd0 (en_pick (b := 8) hd0 (fun _ => ec_int) (by decide)) (fun d ns hdp => sd_go ?_) ns)
  obtain ⟨x, hx, rfl⟩ := hdp
  have hd : DS (fun ns => [dr p ns, .val (iD x), .no]) 0 p := ⟨fun _ => rfl, fun _ _ => rfl⟩
  have ho : ∀ ns, ows ((fun ns => [dr p ns, .val (iD x), .no]) ns) = [p] := fun _ => rfl
  have sized : ∀ (n k : Nat) {Z : Hp → Prop} {E : List Slot}, n ≤ 12 → 1 ≤ k → EC K [p] H Z (tCall (Fresh K p_law_sized) [] E0 (tCons (tC (.int n)) (tCons (tC (.int k)) tNil))) E (lsD (KM.sized n k)) := fun n k {Z E} hn hk =>
    ec_new (ef_call (ea_cons ep_int (ea_cons ep_int ea_nil)) ⟨n, k, hn, hk, rfl, rfl⟩) (imAll_tD _)
  have tup : ∀ (a b : Nat) {Z : Hp → Prop} {E : List Slot}, EP K [p] H Z (tTup (tCons (tC (.int a)) (tCons (tC (.int b)) tNil))) E (tD [a, b]) := fun a b {Z E} => ep_tup (ea_cons ep_int (ea_cons ep_int ea_nil)) (by simp [zs])
  refine sd_seq (sd_if (et_in2 (k1 := 0) (k2 := 5) rfl rfl rfl) (fun _ => ?_) (fun _ => sd_go ?_))
  · exact sd_retD (S := fun ns => [dr p ns, .val (iD x), .no]) hd (ec_fam (n := 3) ec_int (sized 3 2 (by decide) (by decide))) o ⟨3, _, KM.sized_gf (by decide) (by decide), by decide, rfl⟩
  refine sd_seq (sd_if (et_eqN (k := 1) rfl rfl) (fun _ => ?_) (fun _ => sd_go ?_))
  · refine sd_seq (sd_asgN (S := fun ns => [dr p ns, .val (iD x), .no]) hd (en_op (P1 := fun d => d = iD 3) (P2 := fun _ d => ∃ x, x < 2 ∧ d = iD x) (P := fun d => ∃ n, 3 ≤ n ∧ n ≤ 4 ∧ d = iD n) hd (en_ec (d := iD 3) (fun _ => ec_int) hd rfl) (fun _ _ => en_pick (b := 2) hd (fun _ => ec_int) (by decide)) (fun a b h1 h2 => by
      obtain ⟨c, hc, rfl⟩ := h2
      subst h1
      exact ⟨_, r2_int (g := fun i j => i + j), rfl, 3 + c, by omega, by omega, by show D.int ((3 : Int) + (c : Int)) = D.int ((3 + c : Nat) : Int); congr 1⟩)) (fun d ns hdp => sd_go ?_) ns)
    obtain ⟨n, hn1, hn2, rfl⟩ := hdp
    have hd2 : DS (fun ns => [dr p ns, .val (iD x), .val (iD n)]) 0 p := ⟨fun _ => rfl, fun _ _ => rfl⟩
    refine sd_retDN (S := fun ns => [dr p ns, .val (iD x), .val (iD n)]) (P := Fam) hd2 (en_fam (PA := fun d => d = iD n) (PB := fun _ d => ∃ fs, fs ≠ [] ∧ (∀ l ∈ fs, Lot1 n l) ∧ d = lsD (KM.leastL fs)) hd2 (en_ec (d := iD n) (fun _ => ec_var rfl) hd2 rfl) (fun _ _ => en_draw hd2 (fun _ => eac_cons (ec_var (d := iD n) rfl) eac_nil) ⟨n, by omega, by omega, rfl⟩ (fun d h => h n rfl) (.inr fun _ => rfl))
      (fun d d' h1 h2 => ?_)) o (fun d h => h) ns
    obtain ⟨fs, f1, f2, rfl⟩ := h2
    subst h1
    exact ⟨n, _, KM.least_gf (by omega) f1 (fun l hl => (f2 l hl).asc) (fun l hl => (f2 l hl).ne) (fun l hl => (f2 l hl).lt), by omega, rfl⟩
  refine sd_seq (sd_if (et_eqN (k := 2) rfl rfl) (fun _ => ?_) (fun _ => sd_go ?_))
  · refine sd_retD (S := fun ns => [dr p ns, .val (iD x), .no]) hd (ec_fam (n := 4) ec_int (ec_new (ef_cb (ea_cons (EF.p (ef_lst (ea_cons (tup 0 1) (ea_cons (tup 0 2) (ea_cons (tup 0 3) (ea_cons (tup 1 2) ea_nil)))))) ea_nil) (rf_sortY (ts := [[0, 1], [0, 2], [0, 3], [1, 2]]) (.inr (by decide)))) (imAll_tD _))) o ⟨4, _, KM.four, by decide, rfl⟩
  refine sd_seq (sd_if (et_eqN (k := 3) rfl rfl) (fun _ => ?_) (fun _ => sd_go ?_))
  · exact sd_retD (S := fun ns => [dr p ns, .val (iD x), .no]) hd (ec_fam (n := 4) ec_int (ec_new (ef_call (ea_cons (ep_int (i := ((4 : Nat) : Int))) ea_nil) ⟨4, by decide, by decide, rfl, rfl⟩) (imAll_tD _))) o ⟨4, _, KM.fan4, by decide, rfl⟩
  refine sd_seq (sd_if (et_eqN (k := 4) rfl rfl) (fun _ => ?_) (fun _ => sd_go ?_))
  · refine sd_retDN (S := fun ns => [dr p ns, .val (iD x), .no]) (P := Fam) hd (en_fam (PA := fun d => d = iD 4) (PB := fun _ d => ∃ k, 2 ≤ k ∧ k ≤ 3 ∧ d = lsD (KM.sized 4 k)) hd (en_ec (d := iD 4) (fun _ => ec_int) hd rfl)
      (fun _ _ => en_callF (PA := fun l => ∃ k, 2 ≤ k ∧ k ≤ 3 ∧ l = [iD 4, iD k]) hd (ena_cons (P1 := fun d => d = iD 4) (P2 := fun _ l => ∃ k, 2 ≤ k ∧ k ≤ 3 ∧ l = [iD k]) hd (en_ec (d := iD 4) (fun _ => ec_int) hd rfl)
        (fun _ _ => ena_cons (P1 := fun d => ∃ k, 2 ≤ k ∧ k ≤ 3 ∧ d = iD k) (P2 := fun _ l => l = []) hd (en_op (P1 := fun d => d = iD 2) (P2 := fun _ d => ∃ x, x < 2 ∧ d = iD x) hd (en_ec (d := iD 2) (fun _ => ec_int) hd rfl) (fun _ _ => en_pick (b := 2) hd (fun _ => ec_int) (by decide)) (fun a b h1 h2 => by
          obtain ⟨c, hc, rfl⟩ := h2
          subst h1
          exact ⟨_, r2_int (g := fun i j => i + j), rfl, 2 + c, by omega, by omega, by show D.int ((2 : Int) + (c : Int)) = D.int ((2 + c : Nat) : Int); congr 1⟩)) (fun _ _ => ena_nil hd rfl) (fun d l h1 h2 => by obtain ⟨k, a, b, rfl⟩ := h1; exact ⟨k, a, b, by rw [h2]⟩)) (fun d l h1 h2 => by obtain ⟨k, a, b, rfl⟩ := h2; exact ⟨k, a, b, by rw [h1]⟩))
        (fun l h => by obtain ⟨k, a, b, rfl⟩ := h; exact ⟨_, ⟨4, k, by decide, by omega, rfl, rfl⟩, imAll_tD _, k, a, b, rfl⟩))
      (fun d d' h1 h2 => ?_)) o (fun d h => h) ns
    obtain ⟨k, a, b, rfl⟩ := h2
    subst h1
    exact ⟨4, _, KM.sized_gf (by omega) (by omega), by decide, rfl⟩
  refine sd_seq (sd_if (et_eqN (k := 6) rfl rfl) (fun _ => ?_) (fun _ => sd_go ?_))
  · refine sd_retDN (S := fun ns => [dr p ns, .val (iD x), .no]) (P := Fam) hd (en_fam (PA := fun d => d = iD 4) (PB := fun _ d => ∃ ls' : List (List Nat), ls'.Sublist (KM.sized 4 2) ∧ 2 ≤ ls'.length ∧ d = lsD ls') hd (en_ec (d := iD 4) (fun _ => ec_int) hd rfl)
      (fun _ _ => en_draw hd (fun _ => eac_cons (sized 4 2 (by decide) (by decide)) (eac_cons (ec_int (k := ((2 : Nat) : Int))) eac_nil)) ⟨KM.sized 4 2, 2, by rw [KM.sized42]; decide, by rw [KM.sized42]; decide, rfl⟩ (fun d h => h _ _ rfl) (.inr fun _ => rfl))
      (fun d d' h1 h2 => ?_)) o (fun d h => h) ns
    obtain ⟨ls', f1, f2, rfl⟩ := h2
    subst h1
    exact ⟨4, ls', (KM.sized_gf (by decide) (by decide)).sub f1 (fun z => by rw [z] at f2; simp at f2), by decide, rfl⟩
  · refine sd_retDN (S := fun ns => [dr p ns, .val (iD x), .no]) (P := Fam) hd (en_fam (PA := fun d => ∃ n, 1 ≤ n ∧ n ≤ 2 ∧ d = iD n) (PB := fun _ d => d = lsD [[0]]) hd (en_op (P1 := fun d => d = iD 1) (P2 := fun _ d => ∃ x, x < 2 ∧ d = iD x) hd (en_ec (d := iD 1) (fun _ => ec_int) hd rfl) (fun _ _ => en_pick (b := 2) hd (fun _ => ec_int) (by decide)) (fun a b h1 h2 => by
          obtain ⟨c, hc, rfl⟩ := h2
          subst h1
          exact ⟨_, r2_int (g := fun i j => i + j), rfl, 1 + c, by omega, by omega, by show D.int ((1 : Int) + (c : Int)) = D.int ((1 + c : Nat) : Int); congr 1⟩))
      (fun _ _ => en_ec (d := lsD [[0]]) (fun _ => ec_new (ef_lst (ea_cons (ep_tup (ea_cons ep_int ea_nil) (by simp [zs])) ea_nil)) rfl) hd rfl)
      (fun d d' h1 h2 => ?_)) o (fun d h => h) ns
    obtain ⟨n, a, b, rfl⟩ := h1
    subst h2
    exact ⟨n, _, KM.one1 a, by omega, rfl⟩
end
end Y
set_option Elab.async false
set_option linter.all false
set_option autoImplicit false
set_option maxRecDepth 100000
set_option maxHeartbeats 4000000
namespace Y
open PySem L2
section
variable {P : Program} {w : World} {K : PySem.W.Frag} {mg : Str → Option Value} {base : Heap}
/-! middle -/
abbrev s_law_middle : Stmt := topS 60
abbrev N_law_middle : List Str := ["_law_draws_here", "_law_word"]
theorem sc_law_middle : FnScope N_law_middle ["_law_draws_here"] (defScope s_law_middle) := ⟨rfl, rfl, rfl, by decide +kernel, rfl, by decide +kernel, by decide +kernel⟩
theorem lot1_const {n : Nat} {l : List Nat} (a : KM.Asc l) (b : l ≠ []) (c : ∀ x ∈ l, x < n) : Lot1 n l := ⟨a, b, c⟩
theorem ok_law_middle {f : Addr} {fd : FuncData} (F : Fun K "_law_middle" "_law_middle" s_law_middle f fd) (T : Txt mg) (c_law_pick : Cl P w K mg base 1 "_law_pick" (PickP K)) (c_law_sized : Cl P w K mg base 2 "_law_sized" (Fresh K p_law_sized)) (c_law_mixed_lots : Cl P w K mg base 3 "_law_mixed_lots" (DrawP K ok_mix p_mixed))
    (c_law_fan : Cl P w K mg base 1 "_law_fan" (Fresh K p_law_fan)) (c_law_ring : Cl P w K mg base 1 "_law_ring" (Fresh K p_law_ring)) (c_law_chosen : Cl P w K mg base 2 "_law_chosen" (DrawP K ok_ch p_chosen)) (c_law_least : Cl P w K mg base 2 "_law_least" (Fresh K p_law_least)) :
    FnOk P w K mg base CX0 4 f fd ["_law_draws_here"] (DrawP K ok_0 p_fam) := by
  refine draw_ok F sc_law_middle (fun ds h => by cases h; rfl) (by decide) fun cdv A outer s H E hr => ?_
  refine ⟨_, (pss_cons (ps_set (i := 1) sc_law_middle.nd rfl (Or.inl rfl) (pe_cl c_law_pick hr (by decide) (by rfl) (pa_cons (pv 0) (pa_cons pe_int pa_nil))))
    (pss_cons (ps_if (pt_cmpR (r := rIn K false) op_in_seq (pv 1) (pe_tup (pa_cons pe_int (pa_cons pe_int pa_nil))) rfl) (pss_one (ps_ret (pe_lst (pa_cons pe_int (pa_cons (pe_cl c_law_ring hr (by decide) (by rfl) (pa_cons pe_int pa_nil)) pa_nil))))) pss_nil)
    (pss_cons (ps_if (pt_cmpR op_eq (pv 1) pe_int (nomark _)) (pss_one (ps_ret (pe_lst (pa_cons pe_int (pa_cons (pe_cl c_law_mixed_lots hr (by decide) (by rfl) (pa_cons (pv 0) (pa_cons pe_int pa_nil))) pa_nil))))) pss_nil)
    (pss_cons (ps_if (pt_cmpR op_eq (pv 1) pe_int (nomark _)) (pss_one (ps_ret (pe_lst (pa_cons pe_int (pa_cons (pe_cl c_law_fan hr (by decide) (by rfl) (pa_cons pe_int pa_nil)) pa_nil))))) pss_nil)
    (pss_cons (ps_if (pt_cmpR op_eq (pv 1) pe_int (nomark _)) (pss_one (ps_ret (pe_lst (pa_cons pe_int (pa_cons (pe_cl c_law_chosen hr (by decide) (by rfl) (pa_cons (pv 0) (pa_cons (pe_cl c_law_sized hr (by decide) (by rfl) (pa_cons pe_int (pa_cons pe_int pa_nil))) (pa_cons pe_int pa_nil)))) pa_nil))))) pss_nil)
    (pss_cons (ps_if (pt_cmpR op_eq (pv 1) pe_int (nomark _)) (pss_one (ps_ret (pe_lst (pa_cons pe_int (pa_cons (pe_cl c_law_sized hr (by decide) (by rfl) (pa_cons pe_int (pa_cons (pe_op op_sub pe_int (pe_cl c_law_pick hr (by decide) (by rfl) (pa_cons (pv 0) (pa_cons pe_int pa_nil)))) pa_nil))) pa_nil))))) pss_nil)
    (pss_cons (ps_if (pt_cmpR op_eq (pv 1) pe_int (nomark _)) (pss_one (ps_ret (pe_lst (pa_cons pe_int (pa_cons (pe_cl c_law_least hr (by decide) (by rfl) (pa_cons (pe_op op_cat (pe_lst (pa_cons (pe_tup (pa_cons pe_int (pa_cons pe_int pa_nil))) (pa_cons (pe_tup (pa_cons pe_int (pa_cons pe_int pa_nil))) (pa_cons (pe_tup (pa_cons pe_int (pa_cons pe_int pa_nil))) (pa_cons (pe_tup (pa_cons pe_int (pa_cons pe_int pa_nil))) pa_nil))))) (pe_slice sl_list (pe_cl c_law_chosen hr (by decide) (by rfl) (pa_cons (pv 0) (pa_cons (pe_cl c_law_sized hr (by decide) (by rfl) (pa_cons pe_int (pa_cons pe_int pa_nil))) (pa_cons pe_int pa_nil)))) (po_some pe_int) (po_some pe_int))) pa_nil)) pa_nil))))) pss_nil)
    (pss_one (ps_ret (pe_lst (pa_cons pe_int (pa_cons (pe_cl c_law_ring hr (by decide) (by rfl) (pa_cons pe_int pa_nil)) pa_nil)))))))))))), ?_⟩
  rintro ds p rfl De o _ ns
  have hd0 : DS (fun ns => [dr p ns, .no]) 0 p := ⟨fun _ => rfl, fun _ _ => rfl⟩
  refine sd_seq (sd_asgN (S := fun ns => [dr p ns, .no]) hd0 (en_pick (b := 8) hd0 (fun _ => ec_int) (by decide)) (fun d ns hdp => sd_go ?_) ns)
  obtain ⟨x, hx, rfl⟩ := hdp
  have hd : DS (fun ns => [dr p ns, .val (iD x)]) 0 p := ⟨fun _ => rfl, fun _ _ => rfl⟩
  have sized : ∀ (n k : Nat) {Z : Hp → Prop} {E : List Slot}, n ≤ 12 → 1 ≤ k → EC K [p] H Z (tCall (Fresh K p_law_sized) [] E0 (tCons (tC (.int n)) (tCons (tC (.int k)) tNil))) E (lsD (KM.sized n k)) := fun n k {Z E} hn hk =>
    ec_new (ef_call (ea_cons ep_int (ea_cons ep_int ea_nil)) ⟨n, k, hn, hk, rfl, rfl⟩) (imAll_tD _)
  have tup : ∀ (a b : Nat) {Z : Hp → Prop} {E : List Slot}, EP K [p] H Z (tTup (tCons (tC (.int a)) (tCons (tC (.int b)) tNil))) E (tD [a, b]) := fun a b {Z E} => ep_tup (ea_cons ep_int (ea_cons ep_int ea_nil)) (by simp [zs])
  refine sd_seq (sd_if (et_in2 (k1 := 0) (k2 := 4) rfl rfl rfl) (fun _ => ?_) (fun _ => sd_go ?_))
  · exact sd_retD (S := fun ns => [dr p ns, .val (iD x)]) hd (ec_fam (n := 5) ec_int (ec_new (ef_call (ea_cons (ep_int (i := ((5 : Nat) : Int))) ea_nil) ⟨5, by decide, by decide, rfl, rfl⟩) (imAll_tD _))) o ⟨5, _, KM.ring5, by decide, rfl⟩
  refine sd_seq (sd_if (et_eqN (k := 1) rfl rfl) (fun _ => ?_) (fun _ => sd_go ?_))
  · refine sd_retDN (S := fun ns => [dr p ns, .val (iD x)]) (P := Fam) hd (en_fam (PA := fun d => d = iD 5) (PB := fun _ d => ∃ fs, fs ≠ [] ∧ (∀ l ∈ fs, Lot1 5 l) ∧ d = lsD (KM.leastL fs)) hd (en_ec (d := iD 5) (fun _ => ec_int) hd rfl) (fun _ _ => en_draw hd (fun _ => eac_cons (ec_int (k := ((5 : Nat) : Int))) eac_nil) ⟨5, by decide, by decide, rfl⟩ (fun d h => h 5 rfl) (.inr fun _ => rfl))
      (fun d d' h1 h2 => ?_)) o (fun d h => h) ns
    obtain ⟨fs, f1, f2, rfl⟩ := h2
    subst h1
    exact ⟨5, _, KM.least_gf (by decide) f1 (fun l hl => (f2 l hl).asc) (fun l hl => (f2 l hl).ne) (fun l hl => (f2 l hl).lt), by decide, rfl⟩
  refine sd_seq (sd_if (et_eqN (k := 2) rfl rfl) (fun _ => ?_) (fun _ => sd_go ?_))
  · exact sd_retD (S := fun ns => [dr p ns, .val (iD x)]) hd (ec_fam (n := 5) ec_int (ec_new (ef_call (ea_cons (ep_int (i := ((5 : Nat) : Int))) ea_nil) ⟨5, by decide, by decide, rfl, rfl⟩) (imAll_tD _))) o ⟨5, _, KM.fan5, by decide, rfl⟩
  refine sd_seq (sd_if (et_eqN (k := 3) rfl rfl) (fun _ => ?_) (fun _ => sd_go ?_))
  · refine sd_retDN (S := fun ns => [dr p ns, .val (iD x)]) (P := Fam) hd (en_fam (PA := fun d => d = iD 5) (PB := fun _ d => ∃ ls' : List (List Nat), ls'.Sublist (KM.sized 5 2) ∧ 4 ≤ ls'.length ∧ d = lsD ls') hd (en_ec (d := iD 5) (fun _ => ec_int) hd rfl)
      (fun _ _ => en_draw hd (fun _ => eac_cons (sized 5 2 (by decide) (by decide)) (eac_cons (ec_int (k := ((4 : Nat) : Int))) eac_nil)) ⟨KM.sized 5 2, 4, by rw [KM.sized52]; decide, by rw [KM.sized52]; decide, rfl⟩ (fun d h => h _ _ rfl) (.inr fun _ => rfl))
      (fun d d' h1 h2 => ?_)) o (fun d h => h) ns
    obtain ⟨ls', f1, f2, rfl⟩ := h2
    subst h1
    exact ⟨5, ls', (KM.sized_gf (by decide) (by decide)).sub f1 (fun z => by rw [z] at f2; simp at f2), by decide, rfl⟩
  refine sd_seq (sd_if (et_eqN (k := 5) rfl rfl) (fun _ => ?_) (fun _ => sd_go ?_))
  · refine sd_retDN (S := fun ns => [dr p ns, .val (iD x)]) (P := Fam) hd (en_fam (PA := fun d => d = iD 5) (PB := fun _ d => ∃ k, 2 ≤ k ∧ k ≤ 3 ∧ d = lsD (KM.sized 5 k)) hd (en_ec (d := iD 5) (fun _ => ec_int) hd rfl)
      (fun _ _ => en_callF (PA := fun l => ∃ k, 2 ≤ k ∧ k ≤ 3 ∧ l = [iD 5, iD k]) hd (ena_cons (P1 := fun d => d = iD 5) (P2 := fun _ l => ∃ k, 2 ≤ k ∧ k ≤ 3 ∧ l = [iD k]) hd (en_ec (d := iD 5) (fun _ => ec_int) hd rfl)
        (fun _ _ => ena_cons (P1 := fun d => ∃ k, 2 ≤ k ∧ k ≤ 3 ∧ d = iD k) (P2 := fun _ l => l = []) hd (en_op (P1 := fun d => d = iD 3) (P2 := fun _ d => ∃ x, x < 2 ∧ d = iD x) hd (en_ec (d := iD 3) (fun _ => ec_int) hd rfl) (fun _ _ => en_pick (b := 2) hd (fun _ => ec_int) (by decide)) (fun a b h1 h2 => by
          obtain ⟨c, hc, rfl⟩ := h2
          subst h1
          exact ⟨_, r2_int (g := fun i j => i - j), rfl, 3 - c, by omega, by omega, by show D.int ((3 : Int) - (c : Int)) = D.int ((3 - c : Nat) : Int); congr 1; omega⟩)) (fun _ _ => ena_nil hd rfl) (fun d l h1 h2 => by obtain ⟨k, a, b, rfl⟩ := h1; exact ⟨k, a, b, by rw [h2]⟩)) (fun d l h1 h2 => by obtain ⟨k, a, b, rfl⟩ := h2; exact ⟨k, a, b, by rw [h1]⟩))
        (fun l h => by obtain ⟨k, a, b, rfl⟩ := h; exact ⟨_, ⟨5, k, by decide, by omega, rfl, rfl⟩, imAll_tD _, k, a, b, rfl⟩))
      (fun d d' h1 h2 => ?_)) o (fun d h => h) ns
    obtain ⟨k, a, b, rfl⟩ := h2
    subst h1
    exact ⟨5, _, KM.sized_gf (by omega) (by omega), by decide, rfl⟩
  refine sd_seq (sd_if (et_eqN (k := 6) rfl rfl) (fun _ => ?_) (fun _ => sd_go ?_))
  · have lots : ∀ ls' : List (List Nat), ls'.Sublist (KM.sized 5 3) → ∀ l ∈ ([[0, 1], [0, 2], [1, 2], [3, 4]] ++ ls' : List (List Nat)), Lot1 5 l := fun ls' h l hl => by
      rcases List.mem_append.mp hl with hl | hl
      · have h1 : ∀ l ∈ ([[0, 1], [0, 2], [1, 2], [3, 4]] : List (List Nat)), KM.Asc l ∧ l ≠ [] ∧ ∀ x ∈ l, x < 5 := by decide
        exact ⟨(h1 l hl).1, (h1 l hl).2.1, (h1 l hl).2.2⟩
      · have := KM.sized_mem.mp (h.subset hl)
        exact ⟨this.1, fun z => by rw [z] at this; simp at this, this.2.1⟩
    refine sd_retDN (S := fun ns => [dr p ns, .val (iD x)]) (P := Fam) hd (en_fam (PA := fun d => d = iD 5) (PB := fun _ d => ∃ ls' : List (List Nat), ls'.Sublist (KM.sized 5 3) ∧ d = lsD (KM.leastL ([[0, 1], [0, 2], [1, 2], [3, 4]] ++ ls'))) hd (en_ec (d := iD 5) (fun _ => ec_int) hd rfl)
      (fun _ _ => en_callF (PA := fun l => ∃ ls' : List (List Nat), ls'.Sublist (KM.sized 5 3) ∧ l = [lsD ([[0, 1], [0, 2], [1, 2], [3, 4]] ++ ls')]) hd (ena_cons (P1 := fun d => ∃ ls' : List (List Nat), ls'.Sublist (KM.sized 5 3) ∧ d = lsD ([[0, 1], [0, 2], [1, 2], [3, 4]] ++ ls')) (P2 := fun _ l => l = []) hd
        (en_catS (P1 := fun l => ∃ ls' : List (List Nat), ls'.Sublist (KM.sized 5 3) ∧ l = ls'.map tD) (m := ([[0, 1], [0, 2], [1, 2], [3, 4]] : List (List Nat)).map tD) hd (fun _ => ef_lst (ea_cons (tup 0 1) (ea_cons (tup 0 2) (ea_cons (tup 1 2) (ea_cons (tup 3 4) ea_nil))))) (imAll_tD _)
          (en_draw hd (fun _ => eac_cons (sized 5 3 (by decide) (by decide)) (eac_cons (ec_int (k := ((0 : Nat) : Int))) eac_nil)) ⟨KM.sized 5 3, 0, by rw [KM.sized53]; decide, by decide, rfl⟩ (fun d h => by
            obtain ⟨ls', h1, _, rfl⟩ := h _ _ rfl
            exact ⟨_, rfl, ls', h1, rfl⟩) (.inr fun _ => rfl)) ⟨by simp, fun l h => by
            obtain ⟨ls', h1, rfl⟩ := h
            have := h1.length_le
            rw [KM.sized53] at this
            rw [List.length_map]
            omega⟩ (fun l l' h1 h2 => by
            obtain ⟨ls', h1, rfl⟩ := h1
            obtain ⟨ls2, h3, rfl⟩ := List.sublist_map_iff.mp h2
            exact ⟨ls2, h3.trans h1, by unfold lsD; rw [List.map_append]⟩))
        (fun _ _ => ena_nil hd rfl) (fun d l h1 h2 => by obtain ⟨ls', h1, rfl⟩ := h1; exact ⟨ls', h1, by rw [h2]⟩))
        (fun l h => by
          obtain ⟨ls', h1, rfl⟩ := h
          have hlen := h1.length_le
          rw [KM.sized53] at hlen
          exact ⟨_, ⟨_, ⟨by simp; omega, fun l hl => (lots ls' h1 l hl).sm (by decide)⟩, fun l hl => (lots ls' h1 l hl).ne, rfl, rfl⟩, imAll_tD _, ls', h1, rfl⟩))
      (fun d d' h1 h2 => ?_)) o (fun d h => h) ns
    obtain ⟨ls', f1, rfl⟩ := h2
    subst h1
    exact ⟨5, _, KM.least_gf (by decide) (by simp) (fun l hl => (lots ls' f1 l hl).asc) (fun l hl => (lots ls' f1 l hl).ne) (fun l hl => (lots ls' f1 l hl).lt), by decide, rfl⟩
  · exact sd_retD (S := fun ns => [dr p ns, .val (iD x)]) hd (ec_fam (n := 6) ec_int (ec_new (ef_call (ea_cons (ep_int (i := ((6 : Nat) : Int))) ea_nil) ⟨6, by decide, by decide, rfl, rfl⟩) (imAll_tD _))) o ⟨6, _, KM.ring6, by decide, rfl⟩
/-! any -/
abbrev s_law_any : Stmt := topS 61
abbrev N_law_any : List Str := ["_law_draws_here", "_law_word", "_law_found", "_law_size", "_law_lots"]
theorem sc_law_any : FnScope N_law_any ["_law_draws_here"] (defScope s_law_any) := ⟨rfl, rfl, rfl, by decide +kernel, rfl, by decide +kernel, by decide +kernel⟩
def p_any (_ : List D) (d : D) : Prop := ∃ (n : Nat) (ls : List (List Nat)), KM.GF n ls ∧ n ≤ 7 ∧ d = famL n ls
theorem sd_asgC {B : List Addr} {H0 : Hp} {Z : Hp → Prop} {E : List Slot} {te : TE} {d : D} {De : Ends} {i : Nat} (h : EC K B H0 Z te E d) (k : SD K B H0 Z tNext De (E.set i (.val d))) : SD K B H0 Z (tAsg te (gName i)) De E := fun σ H e =>
  h σ H e _ fun v H1 e1 h1 => k _ H1 ((e.ext e1).setC h1)
theorem ent_pick {B : List Addr} {H0 : Hp} {Z : Hp → Prop} {S : List Int → List Slot} {i b : Nat} {c : Int} {p : Addr} (hd : DS S i p) (hb : 1 ≤ b) : ENT K B H0 Z (tTest (tOp rEq (tCall (PickP K) [] E0 (tCons (tVar i) (tCons (tC (.int b)) tNil))) (tC (.int c)))) S p (fun _ => True) :=
  ent_ev (P1 := fun d => ∃ b, d = .bl b) (en_op (P1 := fun d => ∃ x, x < b ∧ d = iD x) (P2 := fun _ d => d = .int c) hd (en_pick hd (fun _ => ec_int) hb) (fun _ _ => en_ec (d := .int c) (fun _ => ec_int) hd rfl) (fun x y hx hy => by
    obtain ⟨a, _, rfl⟩ := hx
    subst hy
    exact ⟨_, r2_eqI (i := (a : Int)) (j := c), rfl, _, rfl⟩)) (fun d hd => by obtain ⟨b, rfl⟩ := hd; exact ⟨b, rfl, trivial⟩)
theorem ok_law_any {f : Addr} {fd : FuncData} (F : Fun K "_law_any" "_law_any" s_law_any f fd) (T : Txt mg) (c_law_pick : Cl P w K mg base 1 "_law_pick" (PickP K)) (c_law_small : Cl P w K mg base 4 "_law_small" (DrawP K ok_0 p_fam)) (c_law_middle : Cl P w K mg base 4 "_law_middle" (DrawP K ok_0 p_fam))
    (c_law_blocker : Cl P w K mg base 3 "_law_blocker" (Fresh K p_law_blocker)) (c_law_moved : Cl P w K mg base 2 "_law_moved" (DrawP K ok_mov p_moved)) : FnOk P w K mg base CX0 5 f fd ["_law_draws_here"] (DrawP K ok_0 p_any) := by
  refine draw_ok F sc_law_any (fun ds h => by cases h; rfl) (by decide) fun cdv A outer s H E hr => ?_
  refine ⟨_, (pss_cons (ps_set (i := 1) sc_law_any.nd rfl (Or.inl rfl) (pe_cl c_law_pick hr (by decide) (by rfl) (pa_cons (pv 0) (pa_cons pe_int pa_nil))))
    (pss_cons (ps_if (pt_cmpR (r := rIn K false) op_in_seq (pv 1) (pe_tup (pa_cons pe_int (pa_cons pe_int pa_nil))) rfl) (pss_one (ps_set (i := 2) sc_law_any.nd rfl (Or.inl rfl) (pe_cl c_law_middle hr (by decide) (by rfl) (pa_cons (pv 0) pa_nil)))) (pss_one (ps_set (i := 2) sc_law_any.nd rfl (Or.inl rfl) (pe_cl c_law_small hr (by decide) (by rfl) (pa_cons (pv 0) pa_nil)))))
    (pss_cons (ps_set (i := 3) sc_law_any.nd rfl (Or.inl rfl) (pe_ix (r := rIxL K) ix_list (pv 2) pe_int (fun _ _ => rfl)))
    (pss_cons (ps_set (i := 4) sc_law_any.nd rfl (Or.inl rfl) (pe_ix (r := rIxL K) ix_list (pv 2) pe_int (fun _ _ => rfl)))
    (pss_cons (ps_if (pt_cmpR op_eq (pe_cl c_law_pick hr (by decide) (by rfl) (pa_cons (pv 0) (pa_cons pe_int pa_nil))) pe_int (nomark _)) (pss_one (ps_set (i := 4) sc_law_any.nd rfl (Or.inl rfl) (pe_cl c_law_blocker hr (by decide) (by rfl) (pa_cons (pv 3) (pa_cons (pv 4) pa_nil))))) pss_nil)
    (pss_cons (ps_set (i := 4) sc_law_any.nd rfl (Or.inl rfl) (pe_cl c_law_moved hr (by decide) (by rfl) (pa_cons (pv 0) (pa_cons (pv 3) (pa_cons (pv 4) pa_nil)))))
    (pss_cons (ps_if (pt_cmpR op_eq (pe_cl c_law_pick hr (by decide) (by rfl) (pa_cons (pv 0) (pa_cons pe_int pa_nil))) pe_int (nomark _)) (pss_one (ps_set (i := 3) sc_law_any.nd rfl (Or.inl rfl) (pe_op op_add (pv 3) pe_int))) pss_nil)
    (pss_one (ps_ret (pe_lst (pa_cons (pv 3) (pa_cons (pv 4) pa_nil)))))))))))), ?_⟩
  rintro ds p rfl De o _ ns
  have hd0 : DS (fun ns => [dr p ns, .no, .no, .no, .no]) 0 p := ⟨fun _ => rfl, fun _ _ => rfl⟩
  refine sd_seq (sd_asgN (S := fun ns => [dr p ns, .no, .no, .no, .no]) hd0 (en_pick (b := 6) hd0 (fun _ => ec_int) (by decide)) (fun d ns hdp => sd_go ?_) ns)
  obtain ⟨x, hx, rfl⟩ := hdp
  have hd1 : DS (fun ns => [dr p ns, .val (iD x), .no, .no, .no]) 0 p := ⟨fun _ => rfl, fun _ _ => rfl⟩
  -- what follows the choice
  have rest : ∀ (ns : List Int) (n : Nat) (ls : List (List Nat)), KM.GF n ls → n ≤ 6 → SD K [p] H (fun _ => True) (tSeq (tAsg (tOp (rIxL K) (tVar 2) (tC (.int 0))) (gName 3)) (tSeq (tAsg (tOp (rIxL K) (tVar 2) (tC (.int 1))) (gName 4))
      (tSeq (tIfS (tTest (tOp rEq (tCall (PickP K) [] E0 (tCons (tVar 0) (tCons (tC (.int 2)) tNil))) (tC (.int 1)))) (tAsg (tCall (Fresh K p_law_blocker) [] E0 (tCons (tVar 3) (tCons (tVar 4) tNil))) (gName 4)) tNext)
      (tSeq (tAsg (tCall (DrawP K ok_mov p_moved) [] E0 (tCons (tVar 0) (tCons (tVar 3) (tCons (tVar 4) tNil)))) (gName 4))
      (tSeq (tIfS (tTest (tOp rEq (tCall (PickP K) [] E0 (tCons (tVar 0) (tCons (tC (.int 10)) tNil))) (tC (.int 9)))) (tAsg (tOp (rI0 fun i j => .int (i + j)) (tVar 3) (tC (.int 1))) (gName 3)) tNext)
      (tRet (tLst (tCons (tVar 3) (tCons (tVar 4) tNil)))))))))
      De [dr p ns, .val (iD x), .val (famL n ls), .no, .no] := fun ns n ls g hn => by
    refine sd_seq (sd_asgC (d := iD n) (ec_ixL (l := [iD n, lsD ls]) (ec_var rfl) rfl) (sd_go ?_))
    refine sd_seq (sd_asgC (d := lsD ls) (ec_ixL (l := [iD n, lsD ls]) (ec_var rfl) rfl) (sd_go ?_))
    have last : ∀ (ns : List Int) (m : Nat) (ls' : List (List Nat)), KM.GF m ls' → m ≤ 7 → SD K [p] H (fun _ => True) (tRet (tLst (tCons (tVar 3) (tCons (tVar 4) tNil)))) De [dr p ns, .val (iD x), .val (famL n ls), .val (iD m), .val (lsD ls')] := fun ns m ls' g' hm => by
      have hd : DS (fun ns => [dr p ns, .val (iD x), .val (famL n ls), .val (iD m), .val (lsD ls')]) 0 p := ⟨fun _ => rfl, fun _ _ => rfl⟩
      exact sd_retD (S := fun ns => [dr p ns, .val (iD x), .val (famL n ls), .val (iD m), .val (lsD ls')]) hd (ec_fam (ec_var rfl) (ec_var rfl)) o ⟨m, ls', g', hm, rfl⟩
    have tail : ∀ (ns : List Int) (ls' : List (List Nat)), KM.GF n ls' → SD K [p] H (fun _ => True) (tSeq (tAsg (tCall (DrawP K ok_mov p_moved) [] E0 (tCons (tVar 0) (tCons (tVar 3) (tCons (tVar 4) tNil)))) (gName 4))
      (tSeq (tIfS (tTest (tOp rEq (tCall (PickP K) [] E0 (tCons (tVar 0) (tCons (tC (.int 10)) tNil))) (tC (.int 9)))) (tAsg (tOp (rI0 fun i j => .int (i + j)) (tVar 3) (tC (.int 1))) (gName 3)) tNext)
      (tRet (tLst (tCons (tVar 3) (tCons (tVar 4) tNil)))))) De [dr p ns, .val (iD x), .val (famL n ls), .val (iD n), .val (lsD ls')] := fun ns ls' g' => by
      have hd : DS (fun ns => [dr p ns, .val (iD x), .val (famL n ls), .val (iD n), .val (lsD ls')]) 0 p := ⟨fun _ => rfl, fun _ _ => rfl⟩
      refine sd_seq (sd_asgN (S := fun ns => [dr p ns, .val (iD x), .val (famL n ls), .val (iD n), .val (lsD ls')]) (P := fun d => ∃ names : List Nat, names.Perm (List.range n) ∧ d = lsD (KM.srt (ls'.map (mv names)))) hd
        (en_draw hd (fun _ => eac_cons (ec_var (d := iD n) rfl) (eac_cons (ec_var (d := lsD ls') rfl) eac_nil)) ⟨n, ls', by omega, by have := gf_small g' (by omega); omega, gf_lot1 g', rfl⟩ (fun d h => h n ls' rfl) (.inr fun _ => rfl)) (fun d ns hdp => sd_go ?_) ns)
      obtain ⟨names, hnm, rfl⟩ := hdp
      have g2 : KM.GF n (KM.srt (ls'.map (mv names))) := KM.moved_gf hnm g'
      have hd2 : DS (fun ns => [dr p ns, .val (iD x), .val (famL n ls), .val (iD n), .val (lsD (KM.srt (ls'.map (mv names))))]) 0 p := ⟨fun _ => rfl, fun _ _ => rfl⟩
      refine sd_seq (sd_ifN (S := fun ns => [dr p ns, .val (iD x), .val (famL n ls), .val (iD n), .val (lsD (KM.srt (ls'.map (mv names))))]) (ent_pick (b := 10) hd2 (by decide)) (fun _ ns => ?_) (fun _ ns => sd_go (last ns n _ g2 (by omega))) ns)
      refine sd_asg (d := iD (n + 1)) (ep_is (ep_op (ep_var (i := 3) (d := iD n) rfl) ep_n1 r2_int) rfl) rfl (sd_go (last ns (n + 1) _ (g2.up (by omega)) (by omega)))
    have hd : DS (fun ns => [dr p ns, .val (iD x), .val (famL n ls), .val (iD n), .val (lsD ls)]) 0 p := ⟨fun _ => rfl, fun _ _ => rfl⟩
    refine sd_seq (sd_ifN (S := fun ns => [dr p ns, .val (iD x), .val (famL n ls), .val (iD n), .val (lsD ls)]) (ent_pick (b := 2) hd (by decide)) (fun _ ns => ?_) (fun _ ns => sd_go (tail ns ls g)) ns)
    have hb := KM.blocker_eq g.g.asc g.lt
    exact sd_asgL (ef_call (ea_cons (ep_var (i := 3) (d := iD n) rfl) (ea_cons (ep_var (i := 4) (d := lsD ls) rfl) ea_nil)) ⟨n, ls, by omega, gf_LL g (by omega), g.ne, rfl, rfl⟩) (imAll_tD _) (sd_go (tail ns _ (hb ▸ KM.blocker_gf g)))
  refine sd_seq (sd_if (et_in2 (k1 := 1) (k2 := 4) rfl rfl rfl) (fun _ => ?_) (fun _ => ?_))
  · refine sd_asgN (S := fun ns => [dr p ns, .val (iD x), .no, .no, .no]) (P := Fam) hd1 (en_draw (ok := ok_0) (pre := p_fam) hd1 (fun _ => eac_nil) rfl (fun d h => h) (.inr fun _ => rfl)) (fun d ns hdp => sd_go ?_) ns
    obtain ⟨n, ls, g, hn, rfl⟩ := hdp
    exact rest ns n ls g hn
  · refine sd_asgN (S := fun ns => [dr p ns, .val (iD x), .no, .no, .no]) (P := Fam) hd1 (en_draw (ok := ok_0) (pre := p_fam) hd1 (fun _ => eac_nil) rfl (fun d h => h) (.inr fun _ => rfl)) (fun d ns hdp => sd_go ?_) ns
    obtain ⟨n, ls, g, hn, rfl⟩ := hdp
    exact rest ns n ls g hn
end
end Y
set_option Elab.async false
set_option linter.all false
set_option autoImplicit false
set_option maxRecDepth 100000
set_option maxHeartbeats 4000000
namespace Y
open PySem L2
/-- a new list, one of several -/
def FreshN (K : PySem.W.Frag) (ok : List D → Prop) (pre : List D → List D → Prop) : Sp := fun vs H Q _ => ∃ ds, IsAll K H vs ds ∧ ok ds ∧ ∀ l p ws H', pre ds l → H p = none → Ex H H' → H' p = some (.lst ws) → IsAll K H' ws l → Q (.ref p) H'
section
variable {P : Program} {w : World} {K : PySem.W.Frag} {mg : Str → Option Value} {base : Heap}
theorem freshn_ok {x qual : Str} {st : Stmt} {f : Addr} {fd : FuncData} {N ps : List Str} {k : Nat} {ok : List D → Prop} {pre : List D → List D → Prop} (F : Fun K x qual st f fd) (S : FnScope N ps (defScope st)) (len : ∀ ds, ok ds → ds.length = ps.length) (hN : ps.length ≤ N.length)
    (hb : ∀ (cdv : Value) (A : Around) (outer : List PySem.Env) (s : Shared) (H : Hp) (E : XK), Room k (A.deeper (PyProof.Rows.envOfC qual (defScope st) s.heap.objs.size f cdv)) →
      ∃ t, PSs (cxOf CX0 P w K mg base N qual (defScope st) f cdv A outer s H E).nox (defBody st) t ∧ ∀ ds, ok ds → ∀ D : Ends, (∀ l, pre ds l → OkF K H D l) → SD K [] H (fun _ => True) t D (entry N ds)) :
    FnOk P w K mg base CX0 (k + 1) f fd ps (FreshN K ok pre) := by
  refine F.ok S (fun vs H Q E h => ?_) (fun cdv A outer s H vs Q E hr h => ?_)
  · obtain ⟨ds, h1, h2, _⟩ := h
    rw [h1.length]
    exact len ds h2
  · obtain ⟨t, ht, hs⟩ := hb cdv A outer s H E hr
    refine ⟨t, ht, ?_⟩
    obtain ⟨ds, h1, h2, h3⟩ := h
    refine hs ds h2 _ (fun l hl => ⟨fun p ws H' np e hp i => h3 l p ws H' hl (np (by simp)) (fun a o q => e a o (by simp) q) hp i⟩) _ _ (env_entry h1 ?_)
    have := len ds h2
    omega
variable {B : List Addr} {H0 : Hp} {Z : Hp → Prop} {E : List Slot} {ta tb tc te : TE} {ea : TA} {x y z d : D} {l m : List D} {De : Ends}
theorem sd_asgON {i : Nat} {ex : XK} {ok : List D → Prop} {pre : List D → List D → Prop} (h : EA K B H0 Z ea E l) (hok : ok l) (him : ∀ m, pre l m → imAll m = true) (k : ∀ p m, pre l m → SD K B H0 Z tNext De (E.set i (.own p m))) : SD K B H0 Z (tAsg (tCall (FreshN K ok pre) [] ex ea) (gName i)) De E := fun σ H e =>
  h σ H e _ fun vs H1 e1 h1 => ⟨l, by rw [List.append_nil]; exact h1, hok, fun m p ws H2 hm np e2 hp h2 => k p m hm _ H2 ((e.ext e1).setO e2 np hp h2 (him m hm) fun hb => by
    cases q : H0 p with
    | none => rfl
    | some o =>
      have := (e.ext e1).ex p o hb q
      rw [np] at this
      cases this)⟩
theorem ef_rev (h : EP K B H0 Z te E (.lst l)) : EF K B H0 Z (tRevL K te) E l.reverse := fun σ H e Q q =>
  h σ H e _ fun v H1 e1 h1 => by
    cases h1 with
    | lst hq ht =>
      rename_i a xs
      exact ⟨a, xs, rfl, hq, fun p np => q p _ _ (e1.back np) (e1.trans (Ex.new np)) upd_same (ht.rev.mono (Ex.new np))⟩
theorem rc_min {a b : Int} : RCd K (fun xs H Q => ∃ i j, xs = [.int i, .int j] ∧ Q (.int (if j < i then j else i)) H) [.int a, .int b] (.int (if b < a then b else a)) := fun vs H h Q q => by
  cases h with
  | cons h1 t =>
    cases h1
    cases t with
    | cons h2 t =>
      cases h2
      cases t
      exact ⟨a, b, rfl, q _ H (Ex.refl H) (.int _)⟩
/-! draws -/
abbrev s_law_draws : Stmt := topS 43
abbrev N_law_draws : List Str := ["_law_script", "_law_draws_here", "_law_at", "_law_cell", "_law_turn", "_law_mixed"]
theorem sc_law_draws : FnScope N_law_draws ["_law_script"] (defScope s_law_draws) := ⟨rfl, rfl, rfl, by decide +kernel, rfl, by decide +kernel, by decide +kernel⟩
def ok_draws (ds : List D) : Prop := ∃ ns : List Int, ns.length ≤ 63 ∧ ds = [.lst (ns.map D.int)]
def p_draws (_ : List D) (l : List D) : Prop := ∃ ns : List Int, l = ns.map D.int
theorem ok_law_draws {f : Addr} {fd : FuncData} (F : Fun K "_law_draws" "_law_draws" s_law_draws f fd) (T : Txt mg) : FnOk P w K mg base CX0 1 f fd ["_law_script"] (FreshN K ok_draws p_draws) := by
  refine freshn_ok F sc_law_draws (fun ds h => by obtain ⟨_, _, rfl⟩ := h; rfl) (by decide) fun cdv A outer s H E hr => ?_
  refine ⟨_, (pss_cons (ps_set (i := 1) sc_law_draws.nd rfl (Or.inl rfl) (pe_lst pa_nil))
    (pss_cons (ps_for PassesOwn.never rfl (pi_range1 (by rfl) T.range (pa_cons (pe_callB (call_min2 rfl) (by rfl) T.min (by decide +kernel) (pa_cons (pe_callB (r := rLen K) call_lenY (by rfl) T.len PySem.boot_len (pa_cons (pv 0) pa_nil)) (pa_cons pe_int pa_nil))) pa_nil)) (pg_name (i := 2) sc_law_draws.nd rfl (Or.inl rfl))
    (pss_cons (ps_set (i := 3) sc_law_draws.nd rfl (Or.inl rfl) (pe_callTy call_int1 (by rfl) T.int (by decide +kernel) (pa_cons (pe_ix (r := rIxL K) ix_list (pv 0) (pv 2) (fun _ _ => rfl)) pa_nil)))
    (pss_cons (ps_if (pt_cmpR op_lt (pv 3) pe_int (nomark _)) (pss_one (ps_set (i := 3) sc_law_draws.nd rfl (Or.inl rfl) (pe_op op_sub pe_int (pv 3)))) pss_nil)
    (pss_one (ps_if (pt_cmpR op_ge (pv 3) (pe_op op_pow pe_int pe_int) (nomark _)) (pss_one (ps_for PassesOwn.never rfl (pi_range1 (by rfl) T.range (pa_cons pe_int pa_nil)) (pg_name (i := 4) sc_law_draws.nd rfl (Or.inl rfl))
    (pss_one (ps_if (pt_cmpR op_gt (pv 3) pe_int (nomark _)) (pss_cons (ps_expr (pe_bm PySem.F.plainAttrs_list PySem.F.slot_list_append PySem.F.type_list_append mt_append (pv 1) (pa_cons (pe_op op_mod (pe_callTy call_int1 (by rfl) T.int (by decide +kernel) (pa_cons (pv 3) pa_nil)) pe_int) pa_nil)))
    (pss_one (ps_set (i := 3) sc_law_draws.nd rfl (Or.inl rfl) (pe_op op_fdiv (pv 3) pe_int)))) pss_nil)))) (pss_cons (ps_set (i := 5) sc_law_draws.nd rfl (Or.inl rfl) (pe_op op_mod (pe_callTy call_int1 (by rfl) T.int (by decide +kernel) (pa_cons (pe_op op_add (pe_op op_add (pe_op op_mulW (pv 3) pe_int) (pe_op op_mulW (pv 2) pe_int)) pe_int) pa_nil)) pe_int))
    (pss_one (ps_for PassesOwn.never rfl (pi_range1 (by rfl) T.range (pa_cons pe_int pa_nil)) (pg_name (i := 4) sc_law_draws.nd rfl (Or.inl rfl))
    (pss_cons (ps_set (i := 5) sc_law_draws.nd rfl (Or.inl rfl) (pe_op op_mod (pe_callTy call_int1 (by rfl) T.int (by decide +kernel) (pa_cons (pe_op op_add (pe_op op_add (pe_op op_add (pe_op op_mulW (pv 5) (pv 5)) (pe_op op_mulW (pv 2) pe_int)) (pe_op op_mulW (pv 4) pe_int)) pe_int) pa_nil)) pe_int))
    (pss_one (ps_expr (pe_bm PySem.F.plainAttrs_list PySem.F.slot_list_append PySem.F.type_list_append mt_append (pv 1) (pa_cons (pe_op op_fdiv (pv 5) pe_int) pa_nil)))))))))))))
    (pss_one (ps_ret (pe_revL (pv 1)))))), ?_⟩
  rintro ds ⟨ns, hz, rfl⟩ De o
  refine sd_seq (sd_asgO (ef_lst ea_nil) rfl fun q => sd_go ?_)
  have hmin : (if (63 : Int) < (ns.length : Int) then (63 : Int) else (ns.length : Int)) = (ns.length : Int) := if_neg (by omega)
  refine sd_seq (sd_forRW (n := (ns.length : Int)) (fun i E => ∃ ds : List Int, E = [.val (.lst (ns.map D.int)), .own q (ds.map D.int), .no, .no, .no, .no] ∧ ds.length ≤ 40 * i)
    (ea_cons (ep_is (ep_cb (ea_cons (ep_cb (ea_cons (ep_var (i := 0) (d := .lst (ns.map D.int)) rfl) ea_nil) rc_lenLn) (ea_cons ep_int ea_nil)) rc_min) (by rw [hmin])) ea_nil) (by omega) ⟨[], rfl, by simp⟩ ?_ ?_)
  · rintro i E hi ⟨ds, rfl, hd⟩
    have hi' : i < ns.length := by omega
    have hix : atI (ns.map D.int) (i : Int) = some (.int ns[i]) := by
      unfold atI ixN
      rw [List.length_map, if_pos (by omega), if_pos (by omega)]
      simp [hi']
    refine sd_seq (sd_asg (d := .int ns[i]) (ep_cb (ea_cons (ep_op (ep_var (d := .lst (ns.map D.int)) rfl) (ep_var rfl) (r2_ixL hix)) ea_nil) rc_intI) rfl (sd_go ?_))
    -- from here on: a number at least 0
    have rest : ∀ c : Int, 0 ≤ c → SD K [] H (fun _ => True) (tIfS (tTest (tOp (rI0 fun i j => .bl (decide (j ≤ i))) (tVar 3) (tOp (rI CPow fun i j => .int (i ^ j.toNat)) (tC (.int 10)) (tC (.int 18)))))
        (tFor (iRng1 (tCons (tC (.int 40)) tNil)) (gName 4) (tIfS (tTest (tOp (rI0 fun i j => .bl (decide (j < i))) (tVar 3) (tC (.int 0)))) (tSeq (tDrop (tBM K "list" rAppend (tVar 1) (tCons (tOp (rI (fun _ j => 0 < j) fun i j => .int (i % j)) (tCB (fun xs H Q => (∃ i, xs = [.int i] ∧ Q (.int i) H) ∨ ∃ k, xs = [.bl k] ∧ Q (.int (if k then 1 else 0)) H) (tCons (tVar 3) tNil)) (tC (.int 24))) tNil))) (tAsg (tOp (rI CDiv fun i j => .int (i / j)) (tVar 3) (tC (.int 24))) (gName 3))) tNext))
        (tSeq (tAsg (tOp (rI (fun _ j => 0 < j) fun i j => .int (i % j)) (tCB (fun xs H Q => (∃ i, xs = [.int i] ∧ Q (.int i) H) ∨ ∃ k, xs = [.bl k] ∧ Q (.int (if k then 1 else 0)) H) (tCons (tOp (rI0 fun i j => .int (i + j)) (tOp (rI0 fun i j => .int (i + j)) (tOp (rI CMulW fun i j => .int (i * j)) (tVar 3) (tC (.int 48271))) (tOp (rI CMulW fun i j => .int (i * j)) (tVar 2) (tC (.int 977)))) (tC (.int 3))) tNil)) (tC (.int 2147483647))) (gName 5))
        (tFor (iRng1 (tCons (tC (.int 5)) tNil)) (gName 4) (tSeq (tAsg (tOp (rI (fun _ j => 0 < j) fun i j => .int (i % j)) (tCB (fun xs H Q => (∃ i, xs = [.int i] ∧ Q (.int i) H) ∨ ∃ k, xs = [.bl k] ∧ Q (.int (if k then 1 else 0)) H) (tCons (tOp (rI0 fun i j => .int (i + j)) (tOp (rI0 fun i j => .int (i + j)) (tOp (rI0 fun i j => .int (i + j)) (tOp (rI CMulW fun i j => .int (i * j)) (tVar 5) (tVar 5)) (tOp (rI CMulW fun i j => .int (i * j)) (tVar 2) (tC (.int 613)))) (tOp (rI CMulW fun i j => .int (i * j)) (tVar 4) (tC (.int 89)))) (tC (.int 17))) tNil)) (tC (.int 2147483629))) (gName 5))
          (tDrop (tBM K "list" rAppend (tVar 1) (tCons (tOp (rI CDiv fun i j => .int (i / j)) (tVar 5) (tC (.int 16))) tNil)))))))
        (LW K [] H (fun _ => True) { nx := fun σ H => (tRet (tRevL K (tVar 1))) De σ H, rt := De.rt, bk := De.bk, ct := De.ct } (fun E => ∃ ds : List Int, E = [.val (.lst (ns.map D.int)), .own q (ds.map D.int), .no, .no, .no, .no] ∧ ds.length ≤ 40 * (i + 1)))
        [.val (.lst (ns.map D.int)), .own q (ds.map D.int), .val (.int i), .val (.int c), .no, .no] := fun c hc => by
      have hpow : (10 : Int) ^ ((18 : Int)).toNat = 1000000000000000000 := by decide
      refine sd_if (et_test (ep_op (ep_var rfl) (ep_op ep_int ep_int (r2_intC (C := CPow) (g := fun i j => i ^ j.toNat) ⟨by decide, by decide, by decide +kernel⟩)) (r2_cmp (g := fun i j => decide (j ≤ i))))) (fun h => ?_) (fun h => ?_)
      · refine sd_forRW (n := 40) (fun j E => ∃ (ds : List Int) (c : Int), E = [.val (.lst (ns.map D.int)), .own q (ds.map D.int), .val (.int i), .val (.int c), .no, .no] ∧ ds.length ≤ 40 * i + j) (ea_cons ep_int ea_nil) (by decide) ⟨ds, c, rfl, by omega⟩ ?_ ?_
        · rintro j E hj ⟨ds, c, rfl, hd⟩
          refine sd_if (et_test (ep_op (ep_var (i := 3) rfl) ep_int (r2_cmp (g := fun i j => decide (j < i))))) (fun h => ?_) (fun h => ?_)
          · refine sd_seq (sd_app (p := q) (i := 1) (l := ds.map D.int) rfl (ep_op (ep_cb (ea_cons (ep_var rfl) ea_nil) rc_intI) ep_int (r2_intC (C := fun _ j => 0 < j) (g := fun i j => i % j) (by decide))) rfl (by rw [List.length_map]; omega) (sd_go ?_))
            refine sd_asg (d := .int (c / 24)) (ep_op (ep_var rfl) ep_int (r2_intC (C := CDiv) (g := fun i j => i / j) ⟨by decide, by decide⟩)) rfl ?_
            refine sd_lw (E' := [.val (.lst (ns.map D.int)), .own q ((ds ++ [c % 24]).map D.int), .val (.int i), .val (.int (c / 24)), .no, .no]) ⟨_, _, rfl, by simp; omega⟩ ?_
            rw [List.map_append]
            exact .eq (.eq (.eq (.eq (.no (.eq .nil)))))
          · exact sd_lw (E' := [.val (.lst (ns.map D.int)), .own q (ds.map D.int), .val (.int i), .val (.int c), .no, .no]) ⟨_, _, rfl, by omega⟩ (.eq (.eq (.eq (.eq (.no (.eq .nil))))))
        · rintro E ⟨ds, c, rfl, hd⟩
          exact sd_lw (E' := [.val (.lst (ns.map D.int)), .own q (ds.map D.int), .no, .no, .no, .no]) ⟨ds, rfl, by have : ((40 : Int)).toNat = 40 := rfl; omega⟩ (.eq (.eq (.no (.no (.eq (.eq .nil))))))
      · have hc2 : c < 1000000000000000000 := by
          rw [hpow] at h
          have := of_decide_eq_false h
          omega
        have sm : ∀ {a b : Int} {x y : Nat}, a.natAbs < 2 ^ x → b.natAbs < 2 ^ y → 0 < x → 0 < y → x + y ≤ 1000000 → CMulW a b := fun {a b x y} h1 h2 h3 h4 h5 => wide_mul h1 h2 h3 h4 h5
        have hcb : c.natAbs < 2 ^ 64 := by omega
        have hib : ((i : Nat) : Int).natAbs < 2 ^ 16 := by omega
        refine sd_seq (sd_asg (d := .int ((c * 48271 + i * 977 + 3) % 2147483647)) (ep_op (ep_cb (ea_cons (ep_op (ep_op (ep_op (ep_var rfl) ep_int (r2_intC (C := CMulW) (g := fun i j => i * j) (sm (y := 16) hcb (by decide) (by decide) (by decide) (by decide)))) (ep_op (ep_var rfl) ep_int (r2_intC (C := CMulW) (g := fun i j => i * j) (sm (y := 16) hib (by decide) (by decide) (by decide) (by decide)))) r2_int) ep_int r2_int) ea_nil) rc_intI) ep_int (r2_intC (C := fun _ j => 0 < j) (g := fun i j => i % j) (by decide))) rfl (sd_go ?_))
        refine sd_forRW (n := 5) (fun j E => ∃ (ds : List Int) (m : Int), 0 ≤ m ∧ m < 2147483647 ∧ E = [.val (.lst (ns.map D.int)), .own q (ds.map D.int), .val (.int i), .val (.int c), .no, .val (.int m)] ∧ ds.length ≤ 40 * i + j) (ea_cons ep_int ea_nil) (by decide) ⟨ds, _, Int.emod_nonneg _ (by decide), Int.emod_lt_of_pos _ (by decide), rfl, by omega⟩ ?_ ?_
        · rintro j E hj ⟨ds, m, m0, m1, rfl, hd⟩
          have hmb : m.natAbs < 2 ^ 32 := by omega
          have hjb : ((j : Nat) : Int).natAbs < 2 ^ 16 := by omega
          refine sd_seq (sd_asg (d := .int ((m * m + i * 613 + j * 89 + 17) % 2147483629)) (ep_op (ep_cb (ea_cons (ep_op (ep_op (ep_op (ep_op (ep_var rfl) (ep_var rfl) (r2_intC (C := CMulW) (g := fun i j => i * j) (sm (x := 32) (y := 32) hmb hmb (by decide) (by decide) (by decide)))) (ep_op (ep_var rfl) ep_int (r2_intC (C := CMulW) (g := fun i j => i * j) (sm (y := 16) hib (by decide) (by decide) (by decide) (by decide)))) r2_int)
            (ep_op (ep_var rfl) ep_int (r2_intC (C := CMulW) (g := fun i j => i * j) (sm (y := 16) hjb (by decide) (by decide) (by decide) (by decide)))) r2_int) ep_int r2_int) ea_nil) rc_intI) ep_int (r2_intC (C := fun _ j => 0 < j) (g := fun i j => i % j) (by decide))) rfl (sd_go ?_))
          have b0 : 0 ≤ (m * m + i * 613 + j * 89 + 17) % 2147483629 := Int.emod_nonneg _ (by decide)
          have b1 : (m * m + i * 613 + j * 89 + 17) % 2147483629 < 2147483629 := Int.emod_lt_of_pos _ (by decide)
          generalize (m * m + i * 613 + j * 89 + 17) % 2147483629 = m' at b0 b1
          refine sd_app (p := q) (i := 1) (l := ds.map D.int) (d := .int (m' / 16)) rfl (ep_op (ep_var rfl) ep_int (r2_intC (C := CDiv) (g := fun i j => i / j) ⟨by decide, by decide⟩)) rfl (by rw [List.length_map]; omega) ?_
          refine sd_lw (E' := [.val (.lst (ns.map D.int)), .own q ((ds ++ [m' / 16]).map D.int), .val (.int i), .val (.int c), .no, .val (.int m')]) ⟨_, m', b0, by omega, rfl, by simp; omega⟩ ?_
          rw [List.map_append]
          exact .eq (.eq (.eq (.eq (.no (.eq .nil)))))
        · rintro E ⟨ds, m, _, _, rfl, hd⟩
          exact sd_lw (E' := [.val (.lst (ns.map D.int)), .own q (ds.map D.int), .no, .no, .no, .no]) ⟨ds, rfl, by have : ((5 : Int)).toNat = 5 := rfl; omega⟩ (.eq (.eq (.no (.no (.eq (.no .nil))))))
    refine sd_seq (sd_if (et_test (ep_op (ep_var (i := 3) rfl) ep_int (r2_cmp (g := fun i j => decide (i < j))))) (fun h => ?_) (fun h => sd_go (rest _ ?_)))
    · have := of_decide_eq_true h
      exact sd_asg (d := .int (7 - ns[i])) (ep_op ep_int (ep_var rfl) r2_int) rfl (sd_go (rest _ (by omega)))
    · have := of_decide_eq_false h
      omega
  · rintro E ⟨ds, rfl, hd⟩
    exact sd_go (sd_retF (ef_rev (ep_own rfl)) (o _ ⟨ds.reverse, by rw [List.map_reverse]⟩).rt)
end
end Y
set_option Elab.async false
set_option linter.all false
set_option autoImplicit false
set_option maxRecDepth 100000
set_option maxHeartbeats 4000000
namespace Y
open PySem L2
section
variable {P : Program} {w : World} {K : PySem.W.Frag} {mg : Str → Option Value} {base : Heap}
/-! int -/
abbrev s_law_int : Stmt := topS 45
abbrev N_law_int : List Str := ["_law_value"]
theorem sc_law_int : FnScope N_law_int ["_law_value"] (defScope s_law_int) := ⟨rfl, rfl, rfl, by decide +kernel, rfl, by decide +kernel, by decide +kernel⟩
def p_law_int (ds : List D) (d : D) : Prop := ∃ i : Int, ds = [.int i] ∧ d = .bl true
theorem ok_law_int {f : Addr} {fd : FuncData} (F : Fun K "_law_int" "_law_int" s_law_int f fd) (T : Txt mg) : FnOk P w K mg base CX0 1 f fd ["_law_value"] (Pure K p_law_int) := by
  refine pure_ok F sc_law_int (fun ds d h => by obtain ⟨_, rfl, _⟩ := h; rfl) (by decide) fun cdv A outer s H E hr => ?_
  refine ⟨_, (pss_one (ps_ret (pe_and (pe_callB (r := rIsi K) call_isi (by rfl) T.isinstance (by decide +kernel) (pa_cons (pv 0) (pa_cons (pe_bltn (v := .ty "int") (by rfl) T.int (by decide +kernel) rfl) pa_nil))) (pe_one (pe_not (pe_callB (r := rIsi K) call_isi (by rfl) T.isinstance (by decide +kernel) (pa_cons (pv 0) (pa_cons (pe_bltn (v := .ty "bool") (by rfl) T.bool (by decide +kernel) rfl) pa_nil)))))))), ?_⟩
  rintro ds d ⟨i, rfl, rfl⟩ De o
  exact sd_ret (ep_andV (b := true) (c := true) (ep_isi (d := .int i) (ty := "int") (ep_var rfl) rfl (by decide +kernel)) fun _ => ep_notV (b := false) (ep_isi (d := .int i) (ty := "int") (ep_var rfl) rfl (by decide +kernel))) o.rt
/-! one_of_two -/
abbrev s_law_one_of_two : Stmt := topS 63
abbrev N_law_one_of_two : List Str := ["_law_fam", "_law_cross", "_law_size", "_law_lots", "_law_those", "_law_rest_here", "_law_due", "_law_inside_here", "_law_away", "_law_word"]
theorem sc_law_one_of_two : FnScope N_law_one_of_two ["_law_fam", "_law_cross", "_law_size", "_law_lots", "_law_those"] (defScope s_law_one_of_two) := ⟨rfl, rfl, rfl, by decide +kernel, rfl, by decide +kernel, by decide +kernel⟩
/-- what one asking needs -/
structure Two (n : Nat) (L X : List (List Nat)) (s : List Nat) : Prop where
  l : InOk n L
  x : InOk n X
  asc : KM.Asc s
  lt : ∀ e ∈ s, e < n
  due : KM.holds X (KM.rest n s) = !KM.holds L s
def p_oot (C : Addr) (ds : List D) (d : D) : Prop := ∃ (n : Nat) (L X : List (List Nat)) (s : List Nat), Two n L X s ∧ ds = [famD C n L, famD C n X, iD n, lsD L, tD s] ∧ d = .bl true
theorem InOk.LL {n : Nat} {ls : List (List Nat)} (h : InOk n ls) : LL ls := ⟨h.len, h.lots.sm⟩
theorem holdsM_eq {n : Nat} {L : List (List Nat)} (h : InOk n L) {f : List Nat} (nd : f.Nodup) : holdsM L f = KM.holds L f := KM.mask_holds h.asc nd
theorem asc_nd {l : List Nat} (h : KM.Asc l) : l.Nodup := h.imp fun h => Nat.ne_of_lt h
theorem ok_law_one_of_two {f C CB : Addr} {fd : FuncData} (F : Fun K "_law_one_of_two" "_law_one_of_two" s_law_one_of_two f fd) (T : Txt mg) (fc : FamC K mg C) (c_law_rest : Cl P w K mg base 1 "_law_rest" (Pure K p_law_rest)) (c_law_holds : Cl P w K mg base 2 "_law_holds" (Pure K p_law_holds))
    (c_holds : ClM P w K mg base 4 C "holds" (PureX K (p_holds C) (q_holds C CB))) (c_side_of : Cl P w K mg base 5 "side_of" (PureX K (p_side_of C) (q_holds C CB))) : FnOk P w K mg base CX0 6 f fd ["_law_fam", "_law_cross", "_law_size", "_law_lots", "_law_those"] (Pure K (p_oot C)) := by
  refine pure_ok F sc_law_one_of_two (fun ds d h => by obtain ⟨_, _, _, _, _, rfl, _⟩ := h; rfl) (by decide) fun cdv A outer s H E hr => ?_
  refine ⟨_, (pss_cons (ps_set (i := 5) sc_law_one_of_two.nd rfl (Or.inl rfl) (pe_cl c_law_rest hr (by decide) (by rfl) (pa_cons (pv 2) (pa_cons (pv 4) pa_nil))))
    (pss_cons (ps_set (i := 6) sc_law_one_of_two.nd rfl (Or.inl rfl) (pe_cl c_law_holds hr (by decide) (by rfl) (pa_cons (pv 3) (pa_cons (pv 4) pa_nil))))
    (pss_cons (ps_set (i := 7) sc_law_one_of_two.nd rfl (Or.inl rfl) (pe_clM c_holds fc.ob.cl hr (by decide) takes0 (pv 0) (pa_cons (pe_revL (pe_callTy (r := rLstOf K) call_lstY (by rfl) T.list (by decide +kernel) (pa_cons (pv 4) pa_nil))) pa_nil)))
    (pss_cons (ps_set (i := 8) sc_law_one_of_two.nd rfl (Or.inl rfl) (pe_clM c_holds fc.ob.cl hr (by decide) takes0 (pv 1) (pa_cons (pv 5) pa_nil)))
    (pss_cons (ps_if (pw_or (pt_not (pt_val (pe_callB (r := rIsi K) call_isi (by rfl) T.isinstance (by decide +kernel) (pa_cons (pv 7) (pa_cons (pe_bltn (v := .ty "bool") (by rfl) T.bool (by decide +kernel) rfl) pa_nil))))) (pw_or1 (pt_not (pt_val (pe_callB (r := rIsi K) call_isi (by rfl) T.isinstance (by decide +kernel) (pa_cons (pv 8) (pa_cons (pe_bltn (v := .ty "bool") (by rfl) T.bool (by decide +kernel) rfl) pa_nil))))))).pt (pss_one (ps_ret pe_bl)) pss_nil)
    (pss_cons (ps_if (pw_or (pt_cmpR op_ne (pv 7) (pv 6) (nomark _)) (pw_or1 (pt_cmpR op_eq (pv 8) (pv 6) (nomark _)))).pt (pss_one (ps_ret pe_bl)) pss_nil)
    (pss_cons (ps_set (i := 9) sc_law_one_of_two.nd rfl (Or.inl rfl) (pe_cl c_side_of hr (by decide) (by rfl) (pa_cons (pv 0) (pa_cons (pe_callTy (r := rLstOf K) call_lstY (by rfl) T.list (by decide +kernel) (pa_cons (pv 4) pa_nil)) pa_nil))))
    (pss_one (ps_ret (pe_and (pe_cmpR op_eq (pv 9) (pe_ix (r := rIxL K) ix_list (pe_lst (pa_cons pe_str (pa_cons pe_str pa_nil))) (pe_callTy call_int1 (by rfl) T.int (by decide +kernel) (pa_cons (pv 6) pa_nil)) (fun _ _ => rfl)) (nomark _)) (pe_one (pe_cmpR op_eq (pe_cl c_side_of hr (by decide) (by rfl) (pa_cons (pv 1) (pa_cons (pv 5) pa_nil))) (pe_ix (r := rIxL K) ix_list (pe_lst (pa_cons pe_str (pa_cons pe_str pa_nil))) (pe_callTy call_int1 (by rfl) T.int (by decide +kernel) (pa_cons (pv 6) pa_nil)) (fun _ _ => rfl)) (nomark _))))))))))))), ?_⟩
  rintro ds d ⟨n, L, X, t, h2, rfl, rfl⟩ De o
  have hn := h2.l.n2
  have tl : t.length ≤ n := asc_len h2.asc h2.lt
  have rr : Row n t.reverse := ⟨by rw [List.length_reverse]; omega, List.pairwise_reverse.mpr ((asc_nd h2.asc).imp Ne.symm), fun x hx => h2.lt x (List.mem_reverse.mp hx)⟩
  have rt : Row n t := ⟨by omega, asc_nd h2.asc, h2.lt⟩
  have hra : KM.Asc (KM.rest n t) := KM.rest_asc n t
  have hrl : ∀ x ∈ KM.rest n t, x < n := fun x hx => (KM.mem_rest.mp hx).1
  have rs : Row n (KM.rest n t) := ⟨by have := asc_len hra hrl; omega, asc_nd hra, hrl⟩
  have e1 : holdsM L t.reverse = KM.holds L t := (holdsM_eq h2.l rr.nd).trans (KM.holds_congr fun x => List.mem_reverse)
  have e2 : holdsM X (KM.rest n t) = !KM.holds L t := (holdsM_eq h2.x rs.nd).trans h2.due
  have e3 : holdsM L t = KM.holds L t := holdsM_eq h2.l rt.nd
  refine sd_seq (sd_asg (ep_call (ea_cons (ep_var rfl) (ea_cons (ep_var rfl) ea_nil)) ⟨n, t, hn, rfl, rfl⟩) (tD_im _) (sd_go ?_))
  refine sd_seq (sd_asg (ep_call (ea_cons (ep_var rfl) (ea_cons (ep_var rfl) ea_nil)) ⟨L, t, h2.l.LL, rfl, rfl⟩) rfl (sd_go ?_))
  refine sd_seq (sd_asg (d := .bl (KM.holds L t)) (ep_meS (ep_var rfl) (by decide) (ea_cons (EF.p (ef_rev (EF.p (ef_cb (ea_cons (ep_var rfl) ea_nil) (rf_list (l := t.map iD) (.inl (tD_eq t))))))) ea_nil) ⟨n, L, t.reverse, .lst (t.map iD).reverse, h2.l, rr, .inr (by rw [List.map_reverse]), rfl, by rw [e1]⟩) rfl (sd_go ?_))
  refine sd_seq (sd_asg (d := .bl (!KM.holds L t)) (ep_meS (ep_var rfl) (by decide) (ea_cons (ep_var rfl) ea_nil) ⟨n, X, KM.rest n t, tD (KM.rest n t), h2.x, rs, .inl (tD_eq _), rfl, by rw [e2]⟩) rfl (sd_go ?_))
  generalize KM.holds L t = b at e1 e2 e3
  refine sd_seq (sd_if (et_or (et_not (et_B (ep_isi (ty := "bool") (r := true) (ep_var rfl) rfl (by decide +kernel)))) fun _ => et_not (et_B (ep_isi (ty := "bool") (r := true) (ep_var rfl) rfl (by decide +kernel)))) (fun h => by cases h) (fun _ => sd_go ?_))
  refine sd_seq (sd_if (et_or (et_test (ep_op (ep_var rfl) (ep_var rfl) (r2_neB (i := b) (j := b)))) fun _ => et_test (ep_op (ep_var rfl) (ep_var rfl) (r2_eqB (i := !b) (j := b)))) (fun h => by cases b <;> cases h) (fun _ => sd_go ?_))
  refine sd_seq (sd_asg (d := .str (if b then "lot" else "block")) (ep_callX (ea_cons (ep_var rfl) (ea_cons (EF.p (ef_cb (ea_cons (ep_var rfl) ea_nil) (rf_list (l := t.map iD) (.inl (tD_eq t))))) ea_nil)) ⟨b, ⟨n, L, t, .lst (t.map iD), h2.l, rt, .inr rfl, rfl, by rw [e3]⟩, rfl⟩) rfl (sd_go ?_))
  have ix : ∀ {Z : Hp → Prop} {E : List Slot} (x y : Str), E[6]? = some (.val (.bl b)) → EP K [] H Z (tOp (rIxL K) (tLst (tCons (tC (.str x)) (tCons (tC (.str y)) tNil))) (tCB (fun xs H Q => (∃ i, xs = [.int i] ∧ Q (.int i) H) ∨ ∃ k, xs = [.bl k] ∧ Q (.int (if k then 1 else 0)) H) (tCons (tVar 6) tNil))) E (.str (if b then y else x)) := fun {Z E} x y h6 =>
    ep_op (EF.p (ef_lst (ea_cons ep_str (ea_cons ep_str ea_nil)))) (ep_cb (ea_cons (ep_var h6) ea_nil) rc_intB) (r2_ixL (by cases b <;> simp [atI, ixN]))
  refine sd_ret (ep_is (ep_andV (c := true) (ep_op (ep_var rfl) (ix "block" "lot" rfl) r2_eqS) fun _ => ep_is (ep_op (x := .str (if b then "block" else "lot")) (ep_callX (ea_cons (ep_var rfl) (ea_cons (ep_var rfl) ea_nil)) ⟨!b, ⟨n, X, KM.rest n t, tD (KM.rest n t), h2.x, rs, .inl (tD_eq _), rfl, by rw [e2]⟩, by cases b <;> rfl⟩) (ix "lot" "block" rfl) r2_eqS) (by simp)) (by simp)) o.rt
end
end Y
set_option Elab.async false
set_option linter.all false
set_option autoImplicit false
set_option maxRecDepth 100000
set_option maxHeartbeats 4000000
namespace Y
open PySem L2
theorem exm_self {P : Program} {K : PySem.W.Frag} {C f : Addr} {t : Str} (c : ExcK K P C f t) : PySem.W.exmOne K (.ref C) (.ref C) = some true := by
  obtain ⟨cd, hc, _⟩ := PySem.W.any_some c.hd
  unfold PySem.W.exmOne
  rw [c.exC, if_pos (by decide)]
  unfold PySem.W.kitCls
  show (if ((PySem.W.clsIn K C).isSome && PySem.W.typeIn K (.ref C) == some (.type "type")) = true then PySem.W.mroIn K C (.ref C) else none) = some true
  rw [hc, c.tyC, c.slf]
  rfl
section
variable {P : Program} {w : World} {K : PySem.W.Frag} {mg : Str → Option Value} {base : Heap}
/-! set_words -/
abbrev s_law_set_words : Stmt := topS 66
abbrev N_law_set_words : List Str := ["_law_fam", "_law_things", "_law_words", "_law_turn", "_law_word", "why"]
theorem sc_law_set_words : FnScope N_law_set_words ["_law_fam", "_law_things"] (defScope s_law_set_words) := ⟨rfl, rfl, rfl, by decide +kernel, rfl, by decide +kernel, by decide +kernel⟩
def setW (m : Int) : D := .tup [.str "set", .int m]
def p_words (C CB : Addr) (ds : List D) (l : List D) : Prop := ∃ m : Int, q_holds C CB ds CB m ∧ l = [setW m, setW m]
theorem ok_law_set_words {f C CB fB : Addr} {fd : FuncData} (F : Fun K "_law_set_words" "_law_set_words" s_law_set_words f fd) (T : Txt mg) (fc : FamC K mg C) (bc : BadC P K mg CB fB) (xf : XfC K CB) (np : PySem.W.findIn K (.ref CB) "place" = some none)
    (c_holds : ClM P w K mg base 4 C "holds" (PureX K (p_holds C) (q_holds C CB))) (c_side_of : ClX P w K mg base 5 "side_of" (PureX K (p_side_of C) (q_holds C CB))) : FnOk P w K mg base CX0 6 f fd ["_law_fam", "_law_things"] (Fresh K (p_words C CB)) := by
  refine fresh_ok F sc_law_set_words (fun ds l h => by obtain ⟨_, ⟨_, _, _, _, rfl, _⟩, _⟩ := h; rfl) (by decide) fun cdv A outer s H E hr => ?_
  refine ⟨_, (pss_cons (ps_set (i := 2) sc_law_set_words.nd rfl (Or.inl rfl) (pe_lst pa_nil))
    (pss_cons (ps_for PassesOwn.never rfl (pi_range1 (by rfl) T.range (pa_cons pe_int pa_nil)) (pg_name (i := 3) sc_law_set_words.nd rfl (Or.inl rfl))
    (pss_cons (ps_set (i := 4) sc_law_set_words.nd rfl (Or.inl rfl) (pe_tup (pa_cons pe_str (pa_cons pe_int pa_nil))))
    (pss_cons (ps_try_as (i := 5) (c := .ref CB) rfl rfl sc_law_set_words.nd rfl rfl ⟨by rfl, by decide, .inl bc.m⟩ takes0
      (fun W pn xe tk _ => pss_one (ps_if (pt_cmpR op_eq (pv 3) pe_int (nomark _)) (pss_one (ps_expr (pe_clM c_holds fc.ob.cl hr (by decide) tk (pv 0) (pa_cons (pv 1) pa_nil)))) (pss_one (ps_expr (pe_clX c_side_of hr (by decide) (by rfl) tk (pa_cons (pv 0) (pa_cons (pv 1) pa_nil)))))))
      (fun a oe cls d pn hz hf => pss_one (ps_set (i := 4) sc_law_set_words.nd rfl (Or.inl rfl) (pe_tup (pa_cons pe_str (pa_cons (pe_xf xf np hz hf (pv 5)) pa_nil))))))
    (pss_one (ps_expr (pe_bm PySem.F.plainAttrs_list PySem.F.slot_list_append PySem.F.type_list_append mt_append (pv 2) (pa_cons (pv 4) pa_nil)))))))
    (pss_one (ps_ret (pv 2))))), ?_⟩
  rintro ds l ⟨m, ⟨n, L, t, hi, rfl, hq⟩, rfl⟩ De o
  refine sd_seq (sd_asgO (ef_lst ea_nil) rfl fun q => sd_go ?_)
  refine sd_seq (sd_forRP (n := 2) (fun _ => True) (ea_cons ep_int ea_nil) (by decide) (fun i => [.val (famD C n L), .val t, .own q (List.replicate i (setW m)), .no, .no, .no]) rfl trivial (fun i hi2 _ => ?_) (fun _ => sd_go (sd_retO rfl o.rt)))
  refine sd_seq (sd_asg (d := .tup [.str "good", .int 0]) (ep_tup (ea_cons ep_str (ea_cons ep_int ea_nil))) rfl (sd_go ?_))
  refine sd_seq ?_
  have hx : ∀ {D' : Ends} {E' : List Slot}, E' = [.val (famD C n L), .val t, .own q (List.replicate i (setW m)), .val (.int i), .val (.tup [.str "good", .int 0]), .no] →
      SD K [] H (fun _ => True) tNext D' [.val (famD C n L), .val t, .own q (List.replicate i (setW m)), .val (.int i), .val (setW m), .no] →
      WX_ K [] H (fun _ => True) E' (wAs K (.ref CB) 5 (fun a cls d => tAsg (tTup (tCons (tC (.str "set")) (tCons (tXf a cls d CB "place" (tVar 5)) tNil))) (gName 4)) (fun _ _ _ _ => False) D') CB m := fun {D' E'} e k σ H' env d hd => by
    subst e
    refine ⟨true, exm_self bc.c, fun _ a na => ?_, fun z => by cases z⟩
    have hlen : σ.length = 6 := env.len
    have h5 : (σ.set 5 (some (V.ref a)))[5]? = some (some (V.ref a)) := List.getElem?_set_self (by rw [hlen]; decide)
    refine ⟨_, h5, rfl, rfl, d, [("place", .int m)], .int m, rfl, hd, rfl, by simp [sizeLine_eq], fun p np' => ?_⟩
    have hs : Is K (upd H' p (.tup [.str "set", .int m])) (.ref p) (setW m) := .tup (SqT.of upd_same) (.cons (.str _) (.cons (.int _) .nil))
    have e2 := ((env.ext (Ex.new np')).set (i := 4) hs rfl).setNo 5
    have es : ((σ.set 5 (some (V.ref a))).set 4 (some (V.ref p))).set 5 none = (σ.set 4 (some (V.ref p))).set 5 none := by
      rw [List.set_comm _ _ (by decide : (5 : Nat) ≠ 4), List.set_set]
    show D'.nx (((σ.set 5 (some (V.ref a))).set 4 (some (V.ref p))).set 5 none) _
    rw [es]
    exact k _ _ e2
  have fin : ∀ {Z : Hp → Prop}, SD K [] H Z (tDrop (tBM K "list" rAppend (tVar 2) (tCons (tVar 4) tNil))) (LP K [] H Z { nx := fun σ H => (tRet (tVar 2)) De σ H, rt := De.rt, bk := De.bk, ct := De.ct } True [.val (famD C n L), .val t, .own q (List.replicate (i + 1) (setW m)), .no, .no, .no])
      [.val (famD C n L), .val t, .own q (List.replicate i (setW m)), .val (.int i), .val (setW m), .no] := fun {Z} => by
    refine sd_app (p := q) (i := 2) (l := List.replicate i (setW m)) rfl (ep_var rfl) rfl (by simp; omega) (sd_lp trivial ?_)
    rw [← List.replicate_succ']
    exact .eq (.eq (.eq (.no (.no (.eq .nil)))))
  refine sd_if (et_test (ep_op (ep_var (i := 3) (d := .int i) rfl) ep_int r2_eqI)) (fun h => ?_) (fun h => ?_)
  · exact sd_dropR (er_meS (ep_var rfl) (by decide) (ea_cons (ep_var rfl) ea_nil) ⟨n, L, t, hi, rfl, hq⟩ (hx rfl (sd_go fin)))
  · exact sd_dropR (er_callS (ea_cons (ep_var rfl) (ea_cons (ep_var rfl) ea_nil)) ⟨n, L, t, hi, rfl, hq⟩ (hx rfl (sd_go fin)))
end
end Y
set_option Elab.async false
set_option linter.all false
set_option autoImplicit false
set_option maxRecDepth 100000
set_option maxHeartbeats 4000000
namespace Y
open PySem L2
/-- a generator's promise: from ds it hands out l -/
def PureG (K : PySem.W.Frag) (pre : List D → List D → Prop) : SpG := fun vs H Q _ => ∃ ds l, IsAll K H vs ds ∧ pre ds l ∧ ∀ out H', Ex H H' → IsAll K H' out l → Q out H'
structure ClG (P : Program) (w : World) (K : PySem.W.Frag) (mg : Str → Option Value) (base : Heap) (k : Nat) (x : Str) (sp : SpG) : Prop where
  ex : ∃ (f : Addr) (fd : FuncData) (ps : List Str), GFn P w K mg base k f fd ps sp ∧ mg x = some (.ref f) ∧ PySem.W.keepIn K (.ref f) = true ∧ Binds K fd ps []
section
variable {X : Cx} {k j : Nat} {x : Str} {sp : SpG} {p p' pos pos' : Pos} {e : Expr} {t : TA}
theorem pe_fldY {K : PySem.W.Frag} {o : Expr} {f : Str} {ta : TE} (he : PE X o ta) (hb : attributeBase o f X.env (eval o X.env) = eval o X.env) (hK : X.K = K) : PE X (.Attribute o f pos) (tFld K ta f) := hK ▸ pe_fld he hb
theorem pe_listClG (c : ClG X.prog X.w X.K X.mg X.base k x sp) (hr : Room j X.A) (hk : k + 3 ≤ j) (hg : Gl X x) (hgl : Gl X "list") (hml : X.mg "list" = none) (ha : PA X [e] t)
    (hdb : (x == ("__debug__" : Str)) = false := by decide) (he0 : starEach [e] X.env = (false, eval e X.env) :: starEach [] X.env := by rfl) (hpl : (backTo pos' (starEach [] X.env)).any (·.1) = false := by rfl)
    (he : starEach [.Call (.Name x p) [e] [] pos'] X.env = (false, eval (.Call (.Name x p) [e] [] pos') X.env) :: starEach [] X.env := by rfl) :
    PE X (.Call (.Name "list" p') [.Call (.Name x p) [e] [] pos'] [] pos) (tListG (tCallG sp [] E0 t)) := by
  obtain ⟨f, fd, ps, F, hm, kp, b⟩ := c.ex
  exact pe_listG (k := k) (pgen_call F (hr.mono (by omega)) hg hm kp b .nil ha hdb he0 hpl) passL (fun cls d H h => h.elim) (hr.mono hk) hgl hml (by decide +kernel) (by decide) (by decide) he
end
section
variable {P : Program} {w : World} {K : PySem.W.Frag} {mg : Str → Option Value} {base : Heap}
theorem ef_listG {B : List Addr} {H0 : Hp} {Z : Hp → Prop} {E : List Slot} {ea : TA} {l m : List D} {pre : List D → List D → Prop} {ex : XK} (h : EA K B H0 Z ea E l) (hp : pre l m) : EF K B H0 Z (tListG (tCallG (PureG K pre) [] ex ea)) E m := fun σ H e Q q =>
  h σ H e _ fun vs H1 e1 h1 => ⟨l, m, by rw [List.append_nil]; exact h1, hp, fun out H2 e2 h2 p np => q p _ _ ((e1.trans e2).back np) ((e1.trans e2).trans (Ex.new np)) upd_same (h2.mono (Ex.new np))⟩
def lcScope (st : Stmt) : Scope := match st with
  | .Assign _ (.ListComp _ _ sc _) _ => sc
  | _ => excScope
/-! quiet_sets -/
abbrev s_quiet_sets : Stmt := topS 32
abbrev N_quiet_sets : List Str := ["family", "rows", "lot", "e", "row"]
theorem sc_quiet_sets : GScope N_quiet_sets ["family"] (defScope s_quiet_sets) := ⟨rfl, rfl, rfl, by decide +kernel, rfl, by decide +kernel, by decide +kernel⟩
/-- the quiet sets may be asked -/
structure QOk (n : Nat) (L : List (List Nat)) : Prop where
  i : InOk n L
  kept : ∀ i, (keptAt L i).length < 1000
  lt : ∀ l ∈ KM.blockerLots L, ∀ x ∈ l, x < n
  ne : (KM.blockerLots L).length ≤ 1 ∨ ∀ l ∈ KM.blockerLots L, KM.rest n l ≠ []
def p_quiet (C : Addr) (ds : List D) (l : List D) : Prop := ∃ (n : Nat) (L : List (List Nat)), QOk n L ∧ ds = [famD C n L] ∧ l = (KM.quiet n L).map tD
theorem ok_quiet_sets {f C : Addr} {fd : FuncData} (F : Fun K "quiet_sets" "quiet_sets" s_quiet_sets f fd) (T : Txt mg) (fc : FamC K mg C) (c_blocker_lots : Cl P w K mg base 3 "blocker_lots" (Pure K p_blocker_lots)) : GFn P w K mg base 4 f fd ["family"] (PureG K (p_quiet C)) := by
  obtain ⟨oc, od, kV, doc, pm, an, cdv, ct, osl, rfl, lk, hcd⟩ := F.ex
  refine gfn_of lk hcd sc_quiet_sets (fun vs H Q E h => by obtain ⟨ds, l, h1, ⟨_, _, _, rfl, _⟩, _⟩ := h; rw [h1.length]; rfl) fun A outer s H vs Q E pn hr h => ?_
  have hu := hr.units
  refine ⟨_, (gss_cons (gs_ps (ps_setLc (i := 1) (own := [("lot", 2)]) (g := gName 2) rfl sc_quiet_sets.nd rfl rfl (sw_true rfl rfl rfl (by decide +kernel)) (pi_tup (pe_cl c_blocker_lots hr (by decide) (by rfl) (pa_cons (pe_fld (pv 0) rfl) pa_nil))) (blkOk_by (N := N_quiet_sets) (sc := defScope s_quiet_sets) (by decide +kernel)) (fun _ _ _ _ _ => pg_name (i := 2) sc_quiet_sets.nd rfl (Or.inr rfl)) (fun _ _ _ _ _ => pts_nil) (fun _ _ _ _ _ => (pe_callTy (r := rTupOf K) call_tupY (by rfl) T.tuple (by decide +kernel) (pa_cons (pe_lc (own := [("e", 3)]) (g := gName 3) rfl sc_quiet_sets.nd (pi_range1 (by rfl) T.range (pa_cons (pe_fldY (K := K) (pv 0) (by rfl) rfl) pa_nil)) (blkOk_by (N := N_quiet_sets) (sc := relS (lcScope ((defBody s_quiet_sets).getD 0 (.Pass ⟨0, 0, 0, 0⟩))) (defScope s_quiet_sets)) (by decide +kernel)) (fun _ _ _ _ _ => pg_name (i := 3) sc_quiet_sets.nd rfl (Or.inl rfl)) (fun _ _ _ _ _ => (pts_one (pt_cmpR (r := rIn K true) op_notIn_seq (pv 3) (pv 2) rfl))) (fun _ _ _ _ _ => (pv 3))) pa_nil)))))
    (gss_cons (gs_for owns_gcx rfl (pi_list (pe_callB (r := rSortY K) (cr_sortY hu) (by rfl) T.sorted (by decide +kernel) (pa_cons (pv 1) pa_nil))) (pg_name (i := 4) sc_quiet_sets.nd rfl (Or.inl rfl))
      (gss_cons (gs_yield (pv 4)) gss_nil)) gss_nil)), ?_⟩
  obtain ⟨ds, l, h1, ⟨n, L, hq, rfl, rfl⟩, h3⟩ := h
  have ee := env_entry (N := N_quiet_sets) (ds := [famD C n L]) h1 (by show 1 ≤ 5; decide)
  have hlen : (KM.blockerLots L).length < 1000 := by
    rw [KM.blockerLots_len]
    have := hq.kept L.length
    unfold keptAt at this
    rwa [List.take_length] at this
  have e0 : EF K [] H (fun _ => True) (tLc (iTup K (tCall (Pure K p_blocker_lots) [] E0 (tCons (tFld K (tVar 0) "lots") tNil))) (gName 2) tYes
      (tCB (rTupOf K) (tCons (tLc (iRng1 (tCons (tFld K (tVar 0) "things") tNil)) (gName 3) (tTest (tOp (rIn K true) (tVar 3) (tVar 2))) (tVar 3) [3]) tNil)) [2]) (entry N_quiet_sets [famD C n L]) (((KM.blockerLots L).map (KM.rest n)).map tD) := by
    rw [List.map_map]
    refine ef_lcT1 (c := tD) (ts := KM.blockerLots L) (fun b => tD (KM.rest n b)) (ep_call (ea_cons (ep_fld (ep_var (i := 0) (d := famD C n L) rfl) fc.ob.cl fc.nl rfl) ea_nil) ⟨L, hq.i.lots, hq.kept, rfl, rfl⟩) (fun _ _ => tD_im _) (by omega) (fun b hb => ?_) (fun _ _ => tD_im _)
    have hn := hq.i.n2
    refine ep_is (ep_cb (ea_cons (EF.p (ef_lcR (fun x => !decide (x ∈ b)) iD (ea_cons (ep_fld (ep_var (i := 0) (d := famD C n L) rfl) fc.ob.cl fc.nt rfl) ea_nil) (by omega) (fun x _ => et_test (ep_op (ep_var (i := 3) (d := iD x) rfl) (ep_var (i := 2) (d := tD b) rfl) nin_at)) (fun x _ _ => ep_var (i := 3) (d := iD x) rfl) (fun _ _ _ => rfl))) ea_nil) rc_tupleL) ?_
    rw [tD_eq]
    rfl
  refine sd_asgL e0 (imAll_tD _) (k := ?_) _ _ ee
  intro σ H1 e1
  -- the loop
  have e2 : EF K [] H (fun _ => True) (tCB (rSortY K) (tCons (tVar 1) tNil)) ((entry N_quiet_sets [famD C n L]).set 1 (.val (.lst (((KM.blockerLots L).map (KM.rest n)).map tD)))) ((KM.quiet n L).map tD) := by
    refine ef_cb (ea_cons (ep_var (i := 1) (d := lsD ((KM.blockerLots L).map (KM.rest n))) rfl) ea_nil) (rf_sortY ?_)
    rcases hq.ne with h | h
    · exact .inl (by rw [List.length_map]; exact h)
    · refine .inr fun t ht => ?_
      obtain ⟨b, hb, rfl⟩ := List.mem_map.mp ht
      exact h b hb
  refine e2 σ H1 e1 _ fun a vs H2 na x2 ha hv => ?_
  refine ⟨a, rfl, ⟨vs, SqL.of ha⟩, ?_⟩
  have hl : vs.length = ((KM.quiet n L).map tD).length := hv.length
  have hz : ((KM.quiet n L).map tD).length ≤ 1000 := by
    rw [List.length_map]
    unfold KM.quiet
    rw [KM.srt_len, List.length_map]
    omega
  have hx0 : Ex H H1 := fun b o q => e1.ex b o (by simp) q
  generalize ((KM.quiet n L).map tD) = l at hv hl hz h3
  refine ⟨fun i m ys σ' H' => m = l.length - i ∧ i ≤ l.length ∧ Ex H2 H' ∧ σ'.length = 5 ∧ IsAll K H' ys (l.take i), ⟨l.length, by simp, Nat.zero_le _, Ex.refl _, e1.len, .nil⟩, ?_⟩
  rintro i m ys σ' H' ⟨rfl, hi, ex', hs5, hys⟩
  by_cases hlt : i < l.length
  · have hiv : i < vs.length := by omega
    refine .inr ⟨⟨vs, vs[i], SqL.of (ex' _ _ ha), List.getElem?_eq_getElem hiv⟩, fun ys σ H => i + 1 ≤ l.length ∧ Ex H2 H ∧ σ.length = 5 ∧ IsAll K H ys (l.take (i + 1)), fun ys' σ2 H3 hh => ⟨l.length - (i + 1), by omega, rfl, hh.1, hh.2.1, hh.2.2.1, hh.2.2.2⟩, fun x H3 hy => ?_⟩
    obtain ⟨rfl, hy⟩ := hy
    have hx := hy vs (SqL.of (ex' _ _ ha))
    obtain ⟨d, hd1, hd2⟩ := hv.get hx
    have hyl := hys.length
    rw [List.length_take] at hyl
    refine ⟨by rw [sizeLine_eq]; omega, x, List.getElem?_set_self (by rw [hs5]; decide), hlt, ex', by rw [List.length_set]; exact hs5, ?_⟩
    rw [take_step hd1]
    exact hys.append (.one (hd2.mono ex'))
  · have hil : i = l.length := by omega
    subst hil
    refine .inl ⟨⟨vs, SqL.of (ex' _ _ ha), by omega⟩, ?_⟩
    rw [List.take_length] at hys
    exact h3 ys H' ((hx0.trans x2).trans ex') hys
end
end Y
set_option Elab.async false
set_option linter.all false
set_option autoImplicit false
set_option maxRecDepth 100000
set_option maxHeartbeats 4000000
namespace Y
open PySem L2
section
variable {P : Program} {w : World} {K : PySem.W.Frag} {mg : Str → Option Value} {base : Heap}
/-! quiet -/
abbrev s_law_quiet : Stmt := topS 65
abbrev N_law_quiet : List Str := ["_law_fam", "_law_size", "_law_lots", "_law_told", "_law_one", "_law_thing", "_law_due", "_law_those"]
theorem sc_law_quiet : FnScope N_law_quiet ["_law_fam", "_law_size", "_law_lots"] (defScope s_law_quiet) := ⟨rfl, rfl, rfl, by decide +kernel, rfl, by decide +kernel, by decide +kernel⟩
def p_lquiet (C : Addr) (ds : List D) (d : D) : Prop := ∃ (n : Nat) (L : List (List Nat)), KM.GF n L ∧ n ≤ 7 ∧ QOk n L ∧ ds = [famD C n L, iD n, lsD L] ∧ d = .bl true
theorem quiet_len {n : Nat} {L : List (List Nat)} (g : KM.GF n L) (hn : n ≤ 7) : (KM.quiet n L).length ≤ 128 := by
  unfold KM.quiet
  rw [KM.srt_len, List.length_map]
  exact gf_small (KM.blocker_gf g) hn
theorem ok_law_quiet {f C : Addr} {fd : FuncData} (F : Fun K "_law_quiet" "_law_quiet" s_law_quiet f fd) (T : Txt mg) (c_quiet_sets : ClG P w K mg base 4 "quiet_sets" (PureG K (p_quiet C))) (c_law_int : Cl P w K mg base 1 "_law_int" (Pure K p_law_int)) (c_law_blocker : Cl P w K mg base 3 "_law_blocker" (Fresh K p_law_blocker))
    (c_law_rest : Cl P w K mg base 1 "_law_rest" (Pure K p_law_rest)) (c_law_subsets : Cl P w K mg base 1 "_law_subsets" (Fresh K p_law_subsets)) (c_law_within : Cl P w K mg base 2 "_law_within" (Pure K p_law_within)) (c_law_holds : Cl P w K mg base 2 "_law_holds" (Pure K p_law_holds)) :
    FnOk P w K mg base CX0 8 f fd ["_law_fam", "_law_size", "_law_lots"] (Pure K (p_lquiet C)) := by
  refine pure_ok F sc_law_quiet (fun ds d h => by obtain ⟨_, _, _, _, _, rfl, _⟩ := h; rfl) (by decide) fun cdv A outer s H E hr => ?_
  have hu := hr.units
  refine ⟨_, (pss_cons (ps_set (i := 3) sc_law_quiet.nd rfl (Or.inl rfl) (pe_listClG c_quiet_sets hr (by decide) (by rfl) (by rfl) T.list (pa_cons (pv 0) pa_nil)))
    (pss_cons (ps_for PassesOwn.never rfl (pi_list (pv 3)) (pg_name (i := 4) sc_law_quiet.nd rfl (Or.inl rfl))
    (pss_one (ps_if (pw_or (pt_not (pt_val (pe_callB (r := rIsi K) call_isi (by rfl) T.isinstance (by decide +kernel) (pa_cons (pv 4) (pa_cons (pe_bltn (v := .ty "tuple") (by rfl) T.tuple (by decide +kernel) rfl) pa_nil))))) (pw_or1 (pt_cmpR op_gt (pe_callB (r := rLen K) call_lenY (by rfl) T.len PySem.boot_len (pa_cons (pe_lc (own := [("_law_thing", 5)]) (g := gName 5) rfl sc_law_quiet.nd (pi_tup (pv 4)) (blkOk_by (N := N_law_quiet) (sc := defScope s_law_quiet) (by decide +kernel)) (fun _ _ _ _ _ => pg_name (i := 5) sc_law_quiet.nd rfl (Or.inl rfl)) (fun _ _ _ _ _ => (pts_one (pt_not (pt_val (pe_cl c_law_int hr (by decide) (by rfl) (pa_cons (pv 5) pa_nil)))))) (fun _ _ _ _ _ => (pv 5))) pa_nil)) pe_int (nomark _)))).pt (pss_one (ps_ret pe_bl)) pss_nil)))
    (pss_cons (ps_set (i := 6) sc_law_quiet.nd rfl (Or.inl rfl) (pe_callB (r := rSortY K) (cr_sortY hu) (by rfl) T.sorted (by decide +kernel) (pa_cons (pe_lc (own := [("_law_those", 7)]) (g := gName 7) rfl sc_law_quiet.nd (pi_list (pe_cl c_law_blocker hr (by decide) (by rfl) (pa_cons (pv 1) (pa_cons (pv 2) pa_nil)))) (blkOk_by (N := N_law_quiet) (sc := defScope s_law_quiet) (by decide +kernel)) (fun _ _ _ _ _ => pg_name (i := 7) sc_law_quiet.nd rfl (Or.inl rfl)) (fun _ _ _ _ _ => pts_nil) (fun _ _ _ _ _ => (pe_cl c_law_rest hr (by decide) (by rfl) (pa_cons (pv 1) (pa_cons (pv 7) pa_nil))))) pa_nil)))
    (pss_cons (ps_if (pt_cmpR (r := rNeD K) (op_neD hu) (pv 3) (pv 6) (nomark _)) (pss_one (ps_ret pe_bl)) pss_nil)
    (pss_cons (ps_for PassesOwn.never rfl (pi_list (pe_cl c_law_subsets hr (by decide) (by rfl) (pa_cons (pv 1) pa_nil))) (pg_name (i := 7) sc_law_quiet.nd rfl (Or.inl rfl))
    (pss_one (ps_if (pt_cmpR op_eq (pe_cl c_law_within hr (by decide) (by rfl) (pa_cons (pv 7) (pa_cons (pv 3) pa_nil))) (pe_cl c_law_holds hr (by decide) (by rfl) (pa_cons (pv 2) (pa_cons (pv 7) pa_nil))) (nomark _)) (pss_one (ps_ret pe_bl)) pss_nil)))
    (pss_one (ps_ret pe_bl))))))), ?_⟩
  rintro ds d ⟨n, L, g, hn, hq, rfl, rfl⟩ De o
  have hL := gf_LL g hn
  have hbe := KM.blocker_eq g.g.asc g.lt
  have ql := quiet_len g hn
  refine sd_seq (sd_asgL (ef_listG (ea_cons (ep_var rfl) ea_nil) ⟨n, L, hq, rfl, rfl⟩) (imAll_tD _) (sd_go ?_))
  refine sd_seq (sd_forLP (c := tD) (ts := KM.quiet n L) (fun _ => True) (ec_var rfl) (fun _ => [.val (famD C n L), .val (iD n), .val (lsD L), .val (.lst ((KM.quiet n L).map tD)), .no, .no, .no, .no]) rfl trivial (fun Z' i t ht _ => ?_) (fun _ => sd_go ?_))
  · have tm := List.mem_of_getElem? ht
    obtain ⟨b, _, rfl⟩ := KM.mem_quiet.mp tm
    have tl : (KM.rest n b).length ≤ n := asc_len (KM.rest_asc n b) (fun x hx => (KM.mem_rest.mp hx).1)
    have hc : EF K [] H Z' (tLc (iTup K (tVar 4)) (gName 5) (tNot (tTest (tCall (Pure K p_law_int) [] E0 (tCons (tVar 5) tNil)))) (tVar 5) [5]) [.val (famD C n L), .val (iD n), .val (lsD L), .val (.lst ((KM.quiet n L).map tD)), .val (tD (KM.rest n b)), .no, .no, .no] (((KM.rest n b).filter fun _ => false).map iD) :=
      ef_lcT (c := iD) (ts := KM.rest n b) (fun _ => false) iD (ep_is (ep_var (i := 4) (d := tD (KM.rest n b)) rfl) (tD_eq _)) (fun _ _ => rfl) (by omega) (fun x _ => et_not (et_test (ep_call (pre := p_law_int) (d := .bl true) (ea_cons (ep_var (i := 5) (d := iD x) rfl) ea_nil) ⟨x, rfl, rfl⟩))) (fun x _ hx => by cases hx) (fun x _ hx => by cases hx)
    refine sd_if (et_or (et_not (et_B (ep_isi (ty := "tuple") (r := true) (ep_var (i := 4) (d := tD (KM.rest n b)) rfl) rfl (by decide +kernel)))) fun _ => et_test (ep_op (ep_cb (ea_cons (EF.p hc) ea_nil) rc_lenLn) ep_int (r2_cmp (g := fun i j => decide (j < i))))) (fun h => ?_) (fun _ => sd_lp trivial (.eq (.eq (.eq (.eq (.no (.eq (.eq (.eq .nil)))))))))
    simp at h
  have e0 : EF K [] H (fun _ => True) (tCB (rSortY K) (tCons (tLc (iList K (tCall (Fresh K p_law_blocker) [] E0 (tCons (tVar 1) (tCons (tVar 2) tNil)))) (gName 7) tYes (tCall (Pure K p_law_rest) [] E0 (tCons (tVar 1) (tCons (tVar 7) tNil))) [7]) tNil)) [.val (famD C n L), .val (iD n), .val (lsD L), .val (.lst ((KM.quiet n L).map tD)), .no, .no, .no, .no] ((KM.quiet n L).map tD) := by
    have hs := rf_sortY (K := K) (ts := (KM.blockerLots L).map (KM.rest n)) (by
      rcases hq.ne with h | h
      · exact .inl (by rw [List.length_map]; exact h)
      · refine .inr fun t ht => ?_
        obtain ⟨b, hb, rfl⟩ := List.mem_map.mp ht
        exact h b hb)
    refine ef_cb (ea_cons (EF.p (l := ((KM.blockerLots L).map (KM.rest n)).map tD) ?_) ea_nil) hs
    rw [List.map_map, ← hbe]
    have bl := gf_small (KM.blocker_gf g) hn
    rw [← hbe] at bl
    exact ef_lcL1 (c := tD) (ts := KM.blocker n L) (fun b => tD (KM.rest n b)) (EF.p (ef_call (ea_cons (ep_var (i := 1) (d := iD n) rfl) (ea_cons (ep_var (i := 2) (d := lsD L) rfl) ea_nil)) ⟨n, L, by omega, hL, g.ne, rfl, rfl⟩)) (fun _ _ => tD_im _) (by omega) (fun b _ => ep_call (ea_cons (ep_var (i := 1) (d := iD n) rfl) (ea_cons (ep_var (i := 7) (d := tD b) rfl) ea_nil)) ⟨n, b, by omega, rfl, rfl⟩) (fun _ _ => tD_im _)
  refine sd_seq (sd_asgL e0 (imAll_tD _) (sd_go ?_))
  refine sd_seq (sd_if (et_test (ep_op (ep_var (i := 3) (d := lsD (KM.quiet n L)) rfl) (ep_var (i := 6) (d := lsD (KM.quiet n L)) rfl) (r2_neD (b := false) (lsD_cmp _).1 (lsD_cmp _).1 (by simp)))) (fun h => by cases h) (fun _ => sd_go ?_))
  refine sd_seq (sd_forLP (c := tD) (ts := KM.subsets n) (fun _ => True) (ec_new (ef_call (ea_cons (ep_var (i := 1) (d := iD n) rfl) ea_nil) ⟨n, by omega, rfl, rfl⟩) (imAll_tD _)) (fun _ => [.val (famD C n L), .val (iD n), .val (lsD L), .val (.lst ((KM.quiet n L).map tD)), .no, .no, .val (.lst ((KM.quiet n L).map tD)), .no]) rfl trivial (fun Z' i t ht _ => ?_) (fun _ => sd_go (sd_ret ep_bl o.rt)))
  have tm := (KM.subsets_mem n t).mp (List.mem_of_getElem? ht)
  have tl : t.length ≤ n := asc_len tm.1 tm.2
  have hw := KM.quiet_within g tm.2
  refine sd_if (et_test (ep_op (ep_call (ea_cons (ep_var (i := 7) (d := tD t) rfl) (ea_cons (ep_var (i := 3) (d := lsD (KM.quiet n L)) rfl) ea_nil)) ⟨t, KM.quiet n L, by omega, rfl, rfl⟩) (ep_call (ea_cons (ep_var (i := 2) (d := lsD L) rfl) (ea_cons (ep_var (i := 7) (d := tD t) rfl) ea_nil)) ⟨L, t, hL, rfl, rfl⟩) r2_eqB)) (fun h => ?_) (fun _ => sd_lp trivial (.eq (.eq (.eq (.eq (.eq (.eq (.eq (.no .nil)))))))))
  rw [hw] at h
  have := of_decide_eq_true h
  cases hh : KM.holds L t <;> rw [hh] at this <;> cases this
end
end Y
set_option Elab.async false
set_option linter.all false
set_option autoImplicit false
set_option maxRecDepth 100000
set_option maxHeartbeats 4000000
namespace Y
/-! what the law may ask of its families -/
theorem gf_in {n : Nat} {L : List (List Nat)} (g : KM.GF n L) (hn : n ≤ 7) : InOk n L := ⟨g.n1, by omega, g.ne, by have := gf_small g hn; omega, g.lne, g.g.asc, g.lt⟩
theorem gf_kept {n : Nat} {L : List (List Nat)} (g : KM.GF n L) (hn : n ≤ 7) (i : Nat) : (keptAt L i).length < 1000 := by
  have h1 := KM.kept_len g.g.asc g.lt i
  have h2 : 2 ^ n ≤ 2 ^ 7 := Nat.pow_le_pow_right (by decide) hn
  have h3 : (2 : Nat) ^ 7 = 128 := by decide
  unfold keptAt
  omega
theorem gf_inv {n : Nat} {L : List (List Nat)} (g : KM.GF n L) (hn : n ≤ 7) : InvOk n L := ⟨gf_in g hn, gf_kept g hn, gf_in (KM.blocker_gf g) hn⟩
theorem gf_q {n : Nat} {L : List (List Nat)} (g : KM.GF n L) (hn : n ≤ 7) : QOk n L := ⟨gf_in g hn, gf_kept g hn, (KM.blocker_gf g).lt, KM.rest_ne g⟩
theorem gf_two {n : Nat} {L : List (List Nat)} (g : KM.GF n L) (hn : n ≤ 7) {s : List Nat} (a : KM.Asc s) (lt : ∀ e ∈ s, e < n) : Two n L (KM.blockerLots L) s := ⟨gf_in g hn, gf_in (KM.blocker_gf g) hn, a, lt, KM.set_or_rest g lt⟩
theorem gf_least {n : Nat} {L : List (List Nat)} (g : KM.GF n L) : KM.leastLots L = L := KM.least_good g.g
theorem ring_in {n : Nat} (h1 : 8 ≤ n) (h2 : n ≤ 12) : InOk n (KM.ringL n) := by
  have g := KM.ring_gf n h1 h2
  refine ⟨g.n1, by omega, g.ne, ?_, g.lne, g.g.asc, g.lt⟩
  rw [KM.ring_eq n h1 h2]
  simp [KM.ringY]
  omega
theorem ring_inv {n : Nat} (h1 : 8 ≤ n) (h2 : n ≤ 12) : InvOk n (KM.ringL n) := by
  have g := KM.ring_gf n h1 h2
  have gb := KM.blocker_gf g
  have k := KM.kept_all (KM.ring_kept n h1 h2)
  refine ⟨ring_in h1 h2, fun i => by have := k i; unfold keptAt; omega, ⟨gb.n1, by omega, gb.ne, ?_, gb.lne, gb.g.asc, gb.lt⟩⟩
  rw [KM.blockerLots_len]
  have := k (KM.ringL n).length
  rw [List.take_of_length_le (Nat.le_refl _)] at this
  omega
theorem ring_two {n : Nat} (h1 : 8 ≤ n) (h2 : n ≤ 12) {s : List Nat} (a : KM.Asc s) (lt : ∀ e ∈ s, e < n) : Two n (KM.ringL n) (KM.blockerLots (KM.ringL n)) s := ⟨ring_in h1 h2, (ring_inv h1 h2).o, a, lt, KM.set_or_rest (KM.ring_gf n h1 h2) lt⟩
theorem fan_q {n : Nat} (h1 : 8 ≤ n) (h2 : n ≤ 12) : QOk (4 * n) (KM.fanL (4 * n)) := by
  have h : 4 * n = 32 ∨ 4 * n = 36 ∨ 4 * n = 40 ∨ 4 * n = 44 ∨ 4 * n = 48 := by omega
  generalize 4 * n = m at h
  have g := KM.fan_gf m h
  have gb := KM.blocker_gf g
  have k := KM.kept_all (KM.fan_kept m h)
  refine ⟨⟨g.n1, by omega, g.ne, ?_, g.lne, g.g.asc, g.lt⟩, fun i => by have := k i; unfold keptAt; omega, gb.lt, KM.rest_ne g⟩
  rw [KM.fan_eq m h]
  simp [KM.fanY]
  omega
theorem fan_least {n : Nat} (h1 : 8 ≤ n) (h2 : n ≤ 12) : KM.leastLots (KM.fanL (4 * n)) = KM.fanL (4 * n) := KM.least_good (KM.fan_gf (4 * n) (by omega)).g
theorem fan_told {n : Nat} (h1 : 8 ≤ n) (h2 : n ≤ 12) : (KM.quiet (4 * n) (KM.fanL (4 * n))).length = 4 * n ∧ (KM.quiet (4 * n) (KM.fanL (4 * n)))[0]? = some [0] ∧ ∃ l, (KM.quiet (4 * n) (KM.fanL (4 * n)))[4 * n - 1]? = some l ∧ l.length = 4 * n - 2 := by
  have h : 4 * n = 32 ∨ 4 * n = 36 ∨ 4 * n = 40 ∨ 4 * n = 44 ∨ 4 * n = 48 := by omega
  rw [KM.fan_quiet _ h]
  exact KM.fanQ_len _ h
end Y
set_option Elab.async false
set_option linter.all false
set_option autoImplicit false
set_option maxRecDepth 100000
set_option maxHeartbeats 4000000
namespace Y
open PySem L2
section
variable {P : Program} {w : World} {K : PySem.W.Frag} {mg : Str → Option Value} {base : Heap}
theorem fam_im (C : Addr) (n : Nat) (L : List (List Nat)) : (famD C n L).im = true := by
  show imAll [iD n, tsD L] = true
  show (true && ((tsD L).im && true)) = true
  rw [show (tsD L).im = true from imAll_tD L]
  rfl
def bads (n : Nat) : List D := [iD n, .int (-1), .bl true, .non, .str "0"]
/-- no thing of a family of n -/
def Bad (n : Nat) (d : D) : Prop := d.tyN.isSome = true ∧ isTh d n = false
theorem bads_at (n : Nat) {k : Nat} (hk : k < 5) : ∃ z, atI (bads n) (k : Int) = some z ∧ z.im = true ∧ Bad n z := by
  have h : k = 0 ∨ k = 1 ∨ k = 2 ∨ k = 3 ∨ k = 4 := by omega
  rcases h with rfl | rfl | rfl | rfl | rfl
  · exact ⟨_, rfl, rfl, rfl, by simp [isTh, iD]⟩
  · exact ⟨_, rfl, rfl, rfl, rfl⟩
  · exact ⟨_, rfl, rfl, rfl, rfl⟩
  · exact ⟨_, rfl, rfl, rfl, rfl⟩
  · exact ⟨_, rfl, rfl, rfl, rfl⟩
theorem words_cmp (m : Int) : Cmpb (.lst [setW m, setW m]) := ⟨rfl, by simp [D.so, soAll, setW]; decide +kernel, by simp [D.dep, depAll, setW]⟩
theorem en_tupL {B : List Addr} {H0 : Hp} {Z : Hp → Prop} {S : List Int → List Slot} {i : Nat} {p : Addr} {te : TE} {P1 P : D → Prop} (hd : DS S i p) (h : EN K B H0 Z te S p P1) (hp : ∀ d, P1 d → ∃ l, d = .lst l ∧ imAll l = true ∧ P (.tup l)) : EN K B H0 Z (tCB (rTupOf K) (tCons te tNil)) S p P := fun ns σ H e Q q =>
  h ns σ H e _ fun v d ns1 H1 p1 e1 w1 h1 => by
    obtain ⟨l, rfl, im, pl⟩ := hp d p1
    refine rc_tupleL [v] H1 (.one (h1.mono (hid_le _ _))) Q fun o H3 x3 h3 => q o _ ns1 H3 pl (e1.ext x3) (w1.trans x3.drw) ?_
    rw [← hid_ows hd ns ns1]
    exact h3.clean (e1.ext x3).lsts im
/-! law -/
abbrev s_law : Stmt := topS 67
abbrev N_law : List Str := ["_law_script", "_law_draws_here", "_law_built", "_law_size", "_law_lots", "_law_fam", "_law_cross", "_law_those", "_law_bad", "_law_turn", "_law_thing", "_law_told"]
theorem sc_law : FnScope N_law ["_law_script"] (defScope s_law) := ⟨rfl, rfl, rfl, by decide +kernel, rfl, by decide +kernel, by decide +kernel⟩
def p_law (ds : List D) (d : D) : Prop := ∃ ns : List Int, ns.length ≤ 63 ∧ ds = [.lst (ns.map D.int)] ∧ d = .bl true
theorem ok_law {f C CB : Addr} {fd : FuncData} (F : Fun K "law" "law" s_law f fd) (T : Txt mg) (fc : FamC K mg C) (c_law_draws : Cl P w K mg base 1 "_law_draws" (FreshN K ok_draws p_draws)) (c_law_any : Cl P w K mg base 5 "_law_any" (DrawP K ok_0 p_any)) (c_Family : ClI P w K mg base 5 C "Family" (InitP K C p_init))
    (c_inv : ClO P w K mg base 7 C "__invert__" (Pure K (p_invert C))) (c_eq : ClO P w K mg base 1 C "__eq__" (Pure K (p_eq C))) (c_blocker : Cl P w K mg base 8 "blocker" (Pure K (p_invert C))) (c_law_subsets : Cl P w K mg base 1 "_law_subsets" (Fresh K p_law_subsets))
    (c_law_one_of_two : Cl P w K mg base 6 "_law_one_of_two" (Pure K (p_oot C))) (c_law_quiet : Cl P w K mg base 8 "_law_quiet" (Pure K (p_lquiet C))) (c_law_blocker : Cl P w K mg base 3 "_law_blocker" (Fresh K p_law_blocker)) (c_law_pick : Cl P w K mg base 1 "_law_pick" (PickP K))
    (c_law_set_words : Cl P w K mg base 6 "_law_set_words" (Fresh K (p_words C CB))) (c_law_ring : Cl P w K mg base 1 "_law_ring" (Fresh K p_law_ring)) (c_law_fan : Cl P w K mg base 1 "_law_fan" (Fresh K p_law_fan)) (hnf : PySem.W.notFirst K C (.ref C) = true) (c_quiet_sets : ClG P w K mg base 4 "quiet_sets" (PureG K (p_quiet C))) :
    FnOk P w K mg base CX0 9 f fd ["_law_script"] (Pure K p_law) := by
  refine pure_ok F sc_law (fun ds d h => by obtain ⟨_, _, rfl, _⟩ := h; rfl) (by decide) fun cdv A outer s H E hr => ?_
  have hu := hr.units
  refine ⟨_, (pss_cons (ps_set (i := 1) sc_law.nd rfl (Or.inr rfl) (pe_cl c_law_draws hr (by decide) (by rfl) (pa_cons (pv 0) pa_nil)))
    (pss_cons (ps_set (i := 2) sc_law.nd rfl (Or.inl rfl) (pe_cl c_law_any hr (by decide) (by rfl) (pa_cons (pv 1) pa_nil)))
    (pss_cons (ps_set (i := 3) sc_law.nd rfl (Or.inl rfl) (pe_ix (r := rIxL K) ix_list (pv 2) pe_int (fun _ _ => rfl)))
    (pss_cons (ps_set (i := 4) sc_law.nd rfl (Or.inl rfl) (pe_ix (r := rIxL K) ix_list (pv 2) pe_int (fun _ _ => rfl)))
    (pss_cons (ps_set (i := 5) sc_law.nd rfl (Or.inl rfl) (pe_clI c_Family hr (by decide) (by rfl) (pa_cons (pv 3) (pa_cons (pv 4) pa_nil))))
    (pss_cons (ps_set (i := 6) sc_law.nd rfl (Or.inl rfl) (pe_un (r := rInv C (Pure K (p_invert C))) (un_clO c_inv hr (by decide)) (pv 5)))
    (pss_cons (ps_if (pw_or (pt_not (pt_cmpR (r := rEqO K C (Pure K (p_eq C))) (op_clO c_eq hnf hr (by decide)) (pe_cl c_blocker hr (by decide) (by rfl) (pa_cons (pv 5) pa_nil)) (pv 6) (nomark _))) (pw_or1 (pt_cmpR op_ne (pe_fld (pv 6) rfl) (pv 3) (nomark _)))).pt (pss_one (ps_ret pe_bl)) pss_nil)
    (pss_cons (ps_for PassesOwn.never rfl (pi_list (pe_cl c_law_subsets hr (by decide) (by rfl) (pa_cons (pv 3) pa_nil))) (pg_name (i := 7) sc_law.nd rfl (Or.inl rfl))
    (pss_one (ps_if (pt_not (pt_val (pe_cl c_law_one_of_two hr (by decide) (by rfl) (pa_cons (pv 5) (pa_cons (pv 6) (pa_cons (pv 3) (pa_cons (pv 4) (pa_cons (pv 7) pa_nil)))))))) (pss_one (ps_ret pe_bl)) pss_nil)))
    (pss_cons (ps_if (pw_or (pt_not (pt_val (pe_cl c_law_quiet hr (by decide) (by rfl) (pa_cons (pv 5) (pa_cons (pv 3) (pa_cons (pv 4) pa_nil)))))) (pw_or1 (pt_not (pt_val (pe_cl c_law_quiet hr (by decide) (by rfl) (pa_cons (pv 6) (pa_cons (pv 3) (pa_cons (pe_cl c_law_blocker hr (by decide) (by rfl) (pa_cons (pv 3) (pa_cons (pv 4) pa_nil))) pa_nil)))))))).pt (pss_one (ps_ret pe_bl)) pss_nil)
    (pss_cons (ps_if (pw_or (pt_cmpR (r := rNeD K) (op_neD hu) (pe_fld (pv 5) rfl) (pe_callTy (r := rTupOf K) call_tupY (by rfl) T.tuple (by decide +kernel) (pa_cons (pv 4) pa_nil)) (nomark _)) (pw_or1 (pt_not (pt_cmpR (r := rEqO K C (Pure K (p_eq C))) (op_clO c_eq hnf hr (by decide)) (pe_un (r := rInv C (Pure K (p_invert C))) (un_clO c_inv hr (by decide)) (pv 5)) (pv 6) (nomark _))))).pt (pss_one (ps_ret pe_bl)) pss_nil)
    (pss_cons (ps_set (i := 8) sc_law.nd rfl (Or.inl rfl) (pe_ix (r := rIxL K) ix_list (pe_lst (pa_cons (pv 3) (pa_cons (pe_un un_neg pe_int) (pa_cons pe_bl (pa_cons pe_non (pa_cons pe_str pa_nil)))))) (pe_cl c_law_pick hr (by decide) (by rfl) (pa_cons (pv 1) (pa_cons pe_int pa_nil))) (fun _ _ => rfl)))
    (pss_cons (ps_if (pw_or (pt_cmpR (r := rNeD K) (op_neD hu) (pe_cl c_law_set_words hr (by decide) (by rfl) (pa_cons (pv 5) (pa_cons (pe_lst (pa_cons pe_int (pa_cons (pv 8) pa_nil))) pa_nil))) (pe_op op_rep (pe_lst (pa_cons (pe_tup (pa_cons pe_str (pa_cons pe_int pa_nil))) pa_nil)) pe_int) (nomark _)) (pw_or1 (pt_cmpR (r := rNeD K) (op_neD hu) (pe_cl c_law_set_words hr (by decide) (by rfl) (pa_cons (pv 6) (pa_cons (pe_tup (pa_cons (pv 8) (pa_cons pe_int pa_nil))) pa_nil))) (pe_op op_rep (pe_lst (pa_cons (pe_tup (pa_cons pe_str (pa_cons pe_int pa_nil))) pa_nil)) pe_int) (nomark _)))).pt (pss_one (ps_ret pe_bl)) pss_nil)
    (pss_cons (ps_if (pw_or (pt_cmpR (r := rNeD K) (op_neD hu) (pe_cl c_law_set_words hr (by decide) (by rfl) (pa_cons (pv 5) (pa_cons (pe_lst (pa_cons pe_int (pa_cons pe_int pa_nil))) pa_nil))) (pe_op op_rep (pe_lst (pa_cons (pe_tup (pa_cons pe_str (pa_cons pe_int pa_nil))) pa_nil)) pe_int) (nomark _)) (pw_or1 (pt_cmpR (r := rNeD K) (op_neD hu) (pe_cl c_law_set_words hr (by decide) (by rfl) (pa_cons (pv 5) (pa_cons pe_non pa_nil))) (pe_op op_rep (pe_lst (pa_cons (pe_tup (pa_cons pe_str (pa_cons (pe_un un_neg pe_int) pa_nil))) pa_nil)) pe_int) (nomark _)))).pt (pss_one (ps_ret pe_bl)) pss_nil)
    (pss_cons (ps_if (pt_cmpR op_eq (pe_cl c_law_pick hr (by decide) (by rfl) (pa_cons (pv 1) (pa_cons pe_int pa_nil))) pe_int (nomark _)) (pss_cons (ps_set (i := 3) sc_law.nd rfl (Or.inl rfl) (pe_op op_add pe_int (pe_cl c_law_pick hr (by decide) (by rfl) (pa_cons (pv 1) (pa_cons pe_int pa_nil)))))
    (pss_cons (ps_set (i := 4) sc_law.nd rfl (Or.inl rfl) (pe_cl c_law_ring hr (by decide) (by rfl) (pa_cons (pv 3) pa_nil)))
    (pss_cons (ps_set (i := 5) sc_law.nd rfl (Or.inl rfl) (pe_clI c_Family hr (by decide) (by rfl) (pa_cons (pv 3) (pa_cons (pv 4) pa_nil))))
    (pss_cons (ps_set (i := 6) sc_law.nd rfl (Or.inl rfl) (pe_un (r := rInv C (Pure K (p_invert C))) (un_clO c_inv hr (by decide)) (pv 5)))
    (pss_cons (ps_for PassesOwn.never rfl (pi_range1 (by rfl) T.range (pa_cons pe_int pa_nil)) (pg_name (i := 9) sc_law.nd rfl (Or.inl rfl))
    (pss_cons (ps_set (i := 7) sc_law.nd rfl (Or.inl rfl) (pe_callTy (r := rTupOf K) call_tupY (by rfl) T.tuple (by decide +kernel) (pa_cons (pe_lc (own := [("_law_thing", 10)]) (g := gName 10) rfl sc_law.nd (pi_range1 (by rfl) T.range (pa_cons (pv 3) pa_nil)) (blkOk_by (N := N_law) (sc := defScope s_law) (by decide +kernel)) (fun _ _ _ _ _ => pg_name (i := 10) sc_law.nd rfl (Or.inl rfl)) (fun _ _ _ _ _ => (pts_one (pt_cmpR op_gt (pe_cl c_law_pick hr (by decide) (by rfl) (pa_cons (pv 1) (pa_cons pe_int pa_nil))) pe_int (nomark _)))) (fun _ _ _ _ _ => (pv 10))) pa_nil)))
    (pss_one (ps_if (pt_not (pt_val (pe_cl c_law_one_of_two hr (by decide) (by rfl) (pa_cons (pv 5) (pa_cons (pv 6) (pa_cons (pv 3) (pa_cons (pv 4) (pa_cons (pv 7) pa_nil)))))))) (pss_one (ps_ret pe_bl)) pss_nil))))
    (pss_cons (ps_set (i := 11) sc_law.nd rfl (Or.inl rfl) (pe_listClG c_quiet_sets hr (by decide) (by rfl) (by rfl) T.list (pa_cons (pe_clI c_Family hr (by decide) (by rfl) (pa_cons (pe_op op_mul pe_int (pv 3)) (pa_cons (pe_cl c_law_fan hr (by decide) (by rfl) (pa_cons (pe_op op_mul pe_int (pv 3)) pa_nil)) pa_nil))) pa_nil)))
    (pss_one (ps_ret (pe_and (pe_cmpR op_eq (pe_callB (r := rLen K) call_lenY (by rfl) T.len PySem.boot_len (pa_cons (pv 11) pa_nil)) (pe_op op_mul pe_int (pv 3)) (nomark _)) (pe_and (pe_cmpR (r := rEqD K) (op_eqD hu) (pe_ix (r := rIxL K) ix_list (pv 11) pe_int (fun _ _ => rfl)) (pe_tup (pa_cons pe_int pa_nil)) (nomark _)) (pe_one (pe_cmpR op_eq (pe_callB (r := rLen K) call_lenY (by rfl) T.len PySem.boot_len (pa_cons (pe_ix (r := rIxL K) ix_list (pv 11) (pe_un un_neg pe_int) (fun _ _ => rfl)) pa_nil)) (pe_op op_sub (pe_op op_mul pe_int (pv 3)) pe_int) (nomark _))))))))))))) pss_nil)
    (pss_one (ps_ret pe_bl)))))))))))))))), ?_⟩
  rintro ds d ⟨ns0, hz, rfl, rfl⟩ De o
  refine sd_seq (sd_asgON (ea_cons (ep_var rfl) ea_nil) ⟨ns0, hz, rfl⟩ (fun m hm => by obtain ⟨ns, rfl⟩ := hm; exact imAll_ints ns) (fun p m hm => sd_go ?_))
  obtain ⟨ns, rfl⟩ := hm
  have hd1 : DS (fun ns => [.val (.lst (ns0.map D.int)), dr p ns, .no, .no, .no, .no, .no, .no, .no, .no, .no, .no]) 1 p := ⟨fun _ => rfl, fun _ _ => rfl⟩
  refine sd_seq (sd_asgN (S := fun ns => [.val (.lst (ns0.map D.int)), dr p ns, .no, .no, .no, .no, .no, .no, .no, .no, .no, .no]) hd1 (en_draw (ok := ok_0) (P := p_any []) hd1 (fun _ => eac_nil) (show ok_0 [] from rfl) (fun d h => h) (.inr fun _ => rfl)) (fun d ns hdp => sd_go ?_) ns)
  obtain ⟨n, L, g, hn, rfl⟩ := hdp
  have gb := KM.blocker_gf g
  have hbe := KM.blocker_eq g.g.asc g.lt
  refine sd_seq (sd_asgC (d := iD n) (ec_ixL (l := [iD n, lsD L]) (ec_var rfl) rfl) (sd_go ?_))
  refine sd_seq (sd_asgC (d := lsD L) (ec_ixL (l := [iD n, lsD L]) (ec_var rfl) rfl) (sd_go ?_))
  refine sd_seq (sd_asg (d := famD C n L) (ep_is (ep_make (ea_cons (ep_var (i := 3) (d := iD n) rfl) (ea_cons (ep_var (i := 4) (d := lsD L) rfl) ea_nil)) ⟨n, L, lsD L, gf_in g hn, .inr rfl, rfl, rfl, rfl⟩) (by rw [gf_least g]; rfl)) (fam_im C n L) (sd_go ?_))
  have eInv : ∀ {Z : Hp → Prop} {E : List Slot}, E[5]? = some (.val (famD C n L)) → EP K [] H Z (tUn (rInv C (Pure K (p_invert C))) (tVar 5)) E (famD C n (KM.blockerLots L)) := fun {Z E} h => ep_is (ep_un (ep_var h) (r1_inv ⟨n, L, gf_inv g hn, rfl, rfl⟩)) (by rw [gf_least gb])
  refine sd_seq (sd_asg (d := famD C n (KM.blockerLots L)) (eInv rfl) (fam_im C n _) (sd_go ?_))
  refine sd_seq (sd_if (et_or (et_not (et_test (ep_op (ep_is (ep_call (ea_cons (ep_var (i := 5) (d := famD C n L) rfl) ea_nil) ⟨n, L, gf_inv g hn, rfl, rfl⟩) (by rw [gf_least gb]; rfl)) (ep_var (i := 6) (d := famD C n (KM.blockerLots L)) rfl) (r2_eqO ⟨n, n, KM.blockerLots L, KM.blockerLots L, rfl, rfl⟩))))
    fun _ => et_test (ep_op (ep_fld (ep_var (i := 6) (d := famD C n (KM.blockerLots L)) rfl) fc.ob.cl fc.nt rfl) (ep_var (i := 3) (d := iD n) rfl) r2_neN)) (fun h => by simp at h) (fun _ => sd_go ?_))
  refine sd_seq (sd_forLP (c := tD) (ts := KM.subsets n) (fun _ => True) (ec_new (ef_call (ea_cons (ep_var (i := 3) (d := iD n) rfl) ea_nil) ⟨n, by omega, rfl, rfl⟩) (imAll_tD _)) (fun _ => [.val (.lst (ns0.map D.int)), dr p ns, .val (famL n L), .val (iD n), .val (lsD L), .val (famD C n L), .val (famD C n (KM.blockerLots L)), .no, .no, .no, .no, .no]) rfl trivial (fun Z' i t ht _ => ?_) (fun _ => sd_go ?_))
  · have tm := (KM.subsets_mem n t).mp (List.mem_of_getElem? ht)
    refine sd_if (et_not (et_B (ep_call (ea_cons (ep_var (i := 5) (d := famD C n L) rfl) (ea_cons (ep_var (i := 6) (d := famD C n (KM.blockerLots L)) rfl) (ea_cons (ep_var (i := 3) (d := iD n) rfl) (ea_cons (ep_var (i := 4) (d := lsD L) rfl) (ea_cons (ep_var (i := 7) (d := tD t) rfl) ea_nil))))) ⟨n, L, KM.blockerLots L, t, gf_two g hn tm.1 tm.2, rfl, rfl⟩))) (fun h => by cases h) (fun _ => sd_lp trivial (.eq (.eq (.eq (.eq (.eq (.eq (.eq (.no (.eq (.eq (.eq (.eq .nil)))))))))))))
  have bl12 := gf_small gb hn
  refine sd_seq (sd_if (et_or (et_not (et_B (ep_call (ea_cons (ep_var (i := 5) (d := famD C n L) rfl) (ea_cons (ep_var (i := 3) (d := iD n) rfl) (ea_cons (ep_var (i := 4) (d := lsD L) rfl) ea_nil))) ⟨n, L, g, hn, gf_q g hn, rfl, rfl⟩)))
    fun _ => et_not (et_B (ep_call (ea_cons (ep_var (i := 6) (d := famD C n (KM.blockerLots L)) rfl) (ea_cons (ep_var (i := 3) (d := iD n) rfl) (ea_cons (EF.p (ef_is (ef_call (ea_cons (ep_var (i := 3) (d := iD n) rfl) (ea_cons (ep_var (i := 4) (d := lsD L) rfl) ea_nil)) ⟨n, L, by omega, gf_LL g hn, g.ne, rfl, rfl⟩) (m := (KM.blockerLots L).map tD) (by rw [hbe]))) ea_nil))) ⟨n, KM.blockerLots L, gb, hn, gf_q gb hn, rfl, rfl⟩))) (fun h => by cases h) (fun _ => sd_go ?_))
  refine sd_seq (sd_if (et_or (et_test (ep_op (ep_fld (ep_var (i := 5) (d := famD C n L) rfl) fc.ob.cl fc.nl rfl) (ep_cb (ea_cons (ep_var (i := 4) (d := lsD L) rfl) ea_nil) rc_tupleL) (r2_neD (b := false) (lsD_cmp L).2 (lsD_cmp L).2 ⟨fun h => by (cases h), fun h => absurd rfl h⟩)))
    fun _ => et_not (et_test (ep_op (eInv rfl) (ep_var (i := 6) (d := famD C n (KM.blockerLots L)) rfl) (r2_eqO ⟨n, n, KM.blockerLots L, KM.blockerLots L, rfl, rfl⟩)))) (fun h => by simp at h) (fun _ => sd_go ?_))
  have hd2 : DS (fun ns => [.val (.lst (ns0.map D.int)), dr p ns, .val (famL n L), .val (iD n), .val (lsD L), .val (famD C n L), .val (famD C n (KM.blockerLots L)), .no, .no, .no, .no, .no]) 1 p := ⟨fun _ => rfl, fun _ _ => rfl⟩
  refine sd_seq (sd_asgN (S := fun ns => [.val (.lst (ns0.map D.int)), dr p ns, .val (famL n L), .val (iD n), .val (lsD L), .val (famD C n L), .val (famD C n (KM.blockerLots L)), .no, .no, .no, .no, .no]) hd2
    (en_op (P1 := fun d => d = .lst (bads n)) (P2 := fun _ d => ∃ x, x < 5 ∧ d = iD x) (P := Bad n) hd2 (en_ec (d := .lst (bads n)) (fun _ => ec_lst (eac_cons (ec_var (d := iD n) rfl) (eac_cons (ec_im (ep_un (x := .int 1) ep_int r1_neg) rfl) (eac_cons (ec_im ep_bl rfl) (eac_cons (ec_im ep_non rfl) (eac_cons (ec_im ep_str rfl) eac_nil))))) (by show 5 ≤ 100000; decide)) hd2 rfl)
      (fun _ _ => en_pick (b := 5) hd2 (fun _ => ec_int) (by decide)) (fun x y hx hy => by
        obtain ⟨k, hk, rfl⟩ := hy
        subst hx
        obtain ⟨z, h1, h2, h3⟩ := bads_at n hk
        exact ⟨z, r2_ixL h1, h2, h3⟩)) (fun dB ns hB => sd_go ?_) ns)
  have words : ∀ {Z : Hp → Prop} {E : List Slot} {tf tt : TE} {e : D} {m : Int} {te : TE} {X : List (List Nat)} (hf : EP K [] H Z tf E (famD C n X)) (hX : InOk n X) (ht : EP K [] H Z tt E e) (hq : q_set_of CB [e, iD n] CB m) (he : EP K [] H Z te E (.int m)),
      EP K [] H Z (tOp (rNeD K) (tCall (Fresh K (p_words C CB)) [] E0 (tCons tf (tCons tt tNil))) (tOp rRep (tLst (tCons (tTup (tCons (tC (.str "set")) (tCons te tNil))) tNil)) (tC (.int 2)))) E (.bl false) := fun {Z E tf tt e m te X} hf hX ht hq he =>
    ep_op (EF.p (ef_call (ea_cons hf (ea_cons ht ea_nil)) ⟨m, ⟨n, X, e, hX, rfl, hq⟩, rfl⟩)) (EF.p (ef_rep (el_new (ef_lst (ea_cons (ep_tup (ea_cons ep_str (ea_cons he ea_nil))) ea_nil))) ep_int ⟨by decide, by decide, by simp⟩)) (r2_neD (b := false) (words_cmp m) (words_cmp m) ⟨fun h => by (cases h), fun h => absurd rfl h⟩)
  have r0 : Row n [0] := ⟨by simp, by simp, fun x hx => by have := g.n1; simp at hx; omega⟩
  have rn : Row n [] := ⟨by simp, by simp, by simp⟩
  refine sd_seq (sd_if (et_or (et_test (words (m := 1) (ep_var (i := 5) (d := famD C n L) rfl) (gf_in g hn) (EF.p (ef_lst (ea_cons ep_int (ea_cons (ep_var (i := 8) (d := dB) rfl) ea_nil)))) ⟨rfl, n, g.n1, .inr ⟨[0], dB, [], _, r0, by simp, hB.1, .inl hB.2, .inr rfl, rfl, rfl⟩⟩ ep_int))
    fun _ => et_test (words (m := 0) (ep_var (i := 6) (d := famD C n (KM.blockerLots L)) rfl) (gf_in gb hn) (ep_tup (ea_cons (ep_var (i := 8) (d := dB) rfl) (ea_cons ep_int ea_nil))) ⟨rfl, n, g.n1, .inr ⟨[], dB, [.int 0], _, rn, by simp, hB.1, .inl hB.2, .inl rfl, rfl, rfl⟩⟩ ep_int)) (fun h => by cases h) (fun _ => sd_go ?_))
  refine sd_seq (sd_if (et_or (et_test (words (m := 1) (ep_var (i := 5) (d := famD C n L) rfl) (gf_in g hn) (EF.p (ef_lst (ea_cons ep_int (ea_cons ep_int ea_nil)))) ⟨rfl, n, g.n1, .inr ⟨[0], iD 0, [], _, r0, by simp, rfl, .inr ⟨0, by simp, rfl⟩, .inr rfl, rfl, rfl⟩⟩ ep_int))
    fun _ => et_test (words (m := -1) (ep_var (i := 5) (d := famD C n L) rfl) (gf_in g hn) ep_non ⟨rfl, n, g.n1, .inl ⟨rfl, rfl⟩⟩ (ep_un (x := .int 1) ep_int r1_neg))) (fun h => by cases h) (fun _ => sd_go ?_))
  have hd3 : DS (fun ns => [.val (.lst (ns0.map D.int)), dr p ns, .val (famL n L), .val (iD n), .val (lsD L), .val (famD C n L), .val (famD C n (KM.blockerLots L)), .no, .val dB, .no, .no, .no]) 1 p := ⟨fun _ => rfl, fun _ _ => rfl⟩
  refine sd_seq (sd_ifN (S := fun ns => [.val (.lst (ns0.map D.int)), dr p ns, .val (famL n L), .val (iD n), .val (lsD L), .val (famD C n L), .val (famD C n (KM.blockerLots L)), .no, .val dB, .no, .no, .no]) (ent_pick (b := 24) hd3 (by decide)) (fun _ ns => ?_) (fun _ ns => sd_go (sd_ret ep_bl o.rt)) ns)
  refine sd_seq (sd_asgN (S := fun ns => [.val (.lst (ns0.map D.int)), dr p ns, .val (famL n L), .val (iD n), .val (lsD L), .val (famD C n L), .val (famD C n (KM.blockerLots L)), .no, .val dB, .no, .no, .no]) (P := fun d => ∃ m : Nat, 8 ≤ m ∧ m ≤ 12 ∧ d = iD m) hd3
    (en_op (P1 := fun d => d = iD 8) (P2 := fun _ d => ∃ x, x < 5 ∧ d = iD x) hd3 (en_ec (d := iD 8) (fun _ => ec_int) hd3 rfl) (fun _ _ => en_pick (b := 5) hd3 (fun _ => ec_int) (by decide)) (fun x y hx hy => by
      obtain ⟨k, hk, rfl⟩ := hy
      subst hx
      exact ⟨_, r2_int, rfl, 8 + k, by omega, by omega, by unfold iD; rw [Int.natCast_add]⟩)) (fun d ns hdp => sd_go ?_) ns)
  clear eInv words bl12 hbe gb hd3
  obtain ⟨m, m1, m2, rfl⟩ := hdp
  have g8 := KM.ring_gf m m1 m2
  have gb8 := KM.blocker_gf g8
  refine sd_seq (sd_asgL (ef_call (ea_cons (ep_var (i := 3) (d := iD m) rfl) ea_nil) ⟨m, by omega, by omega, rfl, rfl⟩) (imAll_tD _) (sd_go ?_))
  refine sd_seq (sd_asg (d := famD C m (KM.ringL m)) (ep_is (ep_make (ea_cons (ep_var (i := 3) (d := iD m) rfl) (ea_cons (ep_var (i := 4) (d := lsD (KM.ringL m)) rfl) ea_nil)) ⟨m, KM.ringL m, lsD (KM.ringL m), ring_in m1 m2, .inr rfl, rfl, rfl, rfl⟩) (by rw [gf_least g8]; rfl)) (fam_im C m _) (sd_go ?_))
  refine sd_seq (sd_asg (d := famD C m (KM.blockerLots (KM.ringL m))) (ep_is (ep_un (ep_var (i := 5) (d := famD C m (KM.ringL m)) rfl) (r1_inv ⟨m, KM.ringL m, ring_inv m1 m2, rfl, rfl⟩)) (by rw [gf_least gb8])) (fam_im C m _) (sd_go ?_))
  refine sd_seq (sd_forRW (n := 5) (fun j E => ∃ ns : List Int, E = [.val (.lst (ns0.map D.int)), dr p ns, .val (famL n L), .val (iD m), .val (lsD (KM.ringL m)), .val (famD C m (KM.ringL m)), .val (famD C m (KM.blockerLots (KM.ringL m))), .no, .val dB, .no, .no, .no]) (ea_cons ep_int ea_nil) (by decide) ⟨ns, rfl⟩ ?_ ?_)
  · rintro j E hj ⟨ns, rfl⟩
    have hd4 : DS (fun ns => [.val (.lst (ns0.map D.int)), dr p ns, .val (famL n L), .val (iD m), .val (lsD (KM.ringL m)), .val (famD C m (KM.ringL m)), .val (famD C m (KM.blockerLots (KM.ringL m))), .no, .val dB, .val (.int j), .no, .no]) 1 p := ⟨fun _ => rfl, fun _ _ => rfl⟩
    refine sd_seq (sd_asgN (S := fun ns => [.val (.lst (ns0.map D.int)), dr p ns, .val (famL n L), .val (iD m), .val (lsD (KM.ringL m)), .val (famD C m (KM.ringL m)), .val (famD C m (KM.blockerLots (KM.ringL m))), .no, .val dB, .val (.int j), .no, .no]) (P := fun d => ∃ xs : List Nat, KM.Asc xs ∧ (∀ x ∈ xs, x < m) ∧ d = tD xs) hd4
      (en_tupL hd4 (en_lcD (j := 10) hd4 (by decide) (fun _ => by show 10 < 12; decide) (fun _ => ea_cons (ep_var (i := 3) (d := iD m) rfl) ea_nil) (by omega) (dt_pick (b := 3) (by decide) fun _ _ _ h => rgt_any h)) (fun d h => by
        obtain ⟨xs, h1, h2, rfl⟩ := h
        exact ⟨_, rfl, imAll_nD xs, xs, h1, fun x hx => by have := h2 x hx; omega, (tD_eq xs).symm⟩)) (fun d ns hdp => sd_go ?_) ns)
    obtain ⟨xs, h1, h2, rfl⟩ := hdp
    exact sd_if (et_not (et_B (ep_call (ea_cons (ep_var (i := 5) (d := famD C m (KM.ringL m)) rfl) (ea_cons (ep_var (i := 6) (d := famD C m (KM.blockerLots (KM.ringL m))) rfl) (ea_cons (ep_var (i := 3) (d := iD m) rfl) (ea_cons (ep_var (i := 4) (d := lsD (KM.ringL m)) rfl) (ea_cons (ep_var (i := 7) (d := tD xs) rfl) ea_nil))))) ⟨m, KM.ringL m, _, xs, ring_two m1 m2 h1 h2, rfl, rfl⟩))) (fun h => by cases h) (fun _ => sd_lw ⟨ns, rfl⟩ (.eq (.eq (.eq (.eq (.eq (.eq (.eq (.no (.eq (.no (.eq (.eq .nil)))))))))))))
  · rintro E ⟨ns, rfl⟩
    refine sd_go ?_
    have mul : ∀ {Z : Hp → Prop} {E : List Slot}, E[3]? = some (.val (iD m)) → EP K [] H Z (tOp (rI CMul fun i j => .int (i * j)) (tC (.int 4)) (tVar 3)) E (iD (4 * m)) := fun {Z E} h => ep_is (ep_op ep_int (ep_var h) (r2_intC (C := CMul) (g := fun i j => i * j) (.inl (by decide)))) (by unfold iD; rw [Int.natCast_mul]; rfl)
    have hfq := fan_q m1 m2
    refine sd_seq (sd_asgL (ef_listG (ea_cons (ep_is (d' := famD C (4 * m) (KM.fanL (4 * m))) (ep_make (ea_cons (mul rfl) (ea_cons (EF.p (ef_call (ea_cons (mul rfl) ea_nil) ⟨4 * m, by omega, by omega, rfl, rfl⟩)) ea_nil)) ⟨4 * m, KM.fanL (4 * m), lsD (KM.fanL (4 * m)), hfq.i, .inr rfl, rfl, rfl, rfl⟩) (by rw [fan_least m1 m2]; rfl)) ea_nil) ⟨4 * m, _, hfq, rfl, rfl⟩) (imAll_tD _) (sd_go ?_))
    obtain ⟨q1, q2, l, q3, q4⟩ := fan_told m1 m2
    generalize KM.quiet (4 * m) (KM.fanL (4 * m)) = Q at q1 q2 q3
    have i0 : atI (Q.map tD) 0 = some (tD [0]) := by
      unfold atI ixN
      rw [List.length_map, if_pos (by omega), if_pos (by omega)]
      show (Q.map tD)[0]? = _
      rw [List.getElem?_map, q2]
      rfl
    have i1 : atI (Q.map tD) (-1) = some (tD l) := by
      unfold atI ixN
      rw [List.length_map, if_neg (by omega), if_pos (by omega)]
      rw [show ((-1 : Int) + (Q.length : Int)).toNat = Q.length - 1 by omega]
      show (Q.map tD)[Q.length - 1]? = _
      rw [List.getElem?_map, q1, q3]
      rfl
    refine sd_ret (d := .bl true) (ep_is (ep_andV (b := true) (c := true) (ep_is (ep_op (ep_cb (ea_cons (ep_var (i := 11) (d := .lst (Q.map tD)) rfl) ea_nil) rc_lenLn) (mul rfl) r2_eqN) (by rw [q1]; simp)) fun _ => ep_is (ep_andV (b := true) (c := true) (ep_op (ep_op (ep_var (i := 11) (d := .lst (Q.map tD)) rfl) ep_int (r2_ixL i0)) (ep_is (ep_tup (ea_cons ep_int ea_nil)) (by rw [tD_eq]; rfl)) (r2_eqD (b := true) (tD_cmp [0]) (tD_cmp [0]) (by simp)))
      fun _ => ep_is (ep_op (ep_is (ep_cb (ea_cons (ep_is (ep_op (ep_var (i := 11) (d := .lst (Q.map tD)) rfl) (ep_un (x := .int 1) ep_int r1_neg) (r2_ixL i1)) (tD_eq l)) ea_nil) rc_lenTn) (d' := iD (4 * m - 2)) (by rw [q4])) (ep_is (ep_op (mul rfl) ep_int r2_int) (d' := iD (4 * m - 2)) (by unfold iD; congr 1; omega)) r2_eqN) (by simp)) rfl) rfl) o.rt
end
end Y
set_option Elab.async false
set_option linter.all false
set_option autoImplicit false
set_option maxRecDepth 100000
set_option maxHeartbeats 4000000
namespace Y
open PySem L2
theorem all_mk {P : Program} {w : World} {K : PySem.W.Frag} {h : Heap} {mg : Str → Option Value} {fa C CB fB f_mask_of f_things_of f_least_masks f_lots_of_masks f_least_lots f_blocker_lots f_law_inside f_law_common f_law_subsets f_law_least f_law_holds f_law_meets f_law_blocker f_law_sized f_law_fan f_law_ring f_law_rest f_law_within f_is_integer f_ask_size f_is_thing f_set_of f_ask_things f_checked_lot f_Minit f_Meq f_Minvert f_Mholds f_blocker f_side_of f_law_pick f_law_chosen f_law_mixed_lots f_law_moved f_law_small f_law_middle f_law_any f_law_draws f_law_int f_law_one_of_two f_law_set_words f_quiet_sets f_law_quiet f_law : Addr} (X : K.In h) (G : h.Ns mainGlobals mg) (hfa : mg "law" = some (.ref fa)) {tM : Tok}
    {od_mask_of an_mask_of od_things_of an_things_of od_least_masks an_least_masks od_lots_of_masks an_lots_of_masks od_least_lots an_least_lots od_blocker_lots an_blocker_lots od_law_inside an_law_inside od_law_common an_law_common od_law_subsets an_law_subsets od_law_least an_law_least od_law_holds an_law_holds od_law_meets an_law_meets od_law_blocker an_law_blocker od_law_sized an_law_sized od_law_fan an_law_fan od_law_ring an_law_ring od_law_rest an_law_rest od_law_within an_law_within od_is_integer an_is_integer od_ask_size an_ask_size od_is_thing an_is_thing od_set_of an_set_of od_ask_things an_ask_things od_checked_lot an_checked_lot od_Minit an_Minit od_Meq an_Meq od_Minvert an_Minvert od_Mholds an_Mholds od_blocker an_blocker od_side_of an_side_of od_law_pick an_law_pick od_law_chosen an_law_chosen od_law_mixed_lots an_law_mixed_lots od_law_moved an_law_moved od_law_small an_law_small od_law_middle an_law_middle od_law_any an_law_any od_law_draws an_law_draws od_law_int an_law_int od_law_one_of_two an_law_one_of_two od_law_set_words an_law_set_words od_quiet_sets an_quiet_sets od_law_quiet an_law_quiet od_law an_law : Option Addr} {sl_mask_of sl_things_of sl_least_masks sl_lots_of_masks sl_least_lots sl_blocker_lots sl_law_inside sl_law_common sl_law_subsets sl_law_least sl_law_holds sl_law_meets sl_law_blocker sl_law_sized sl_law_fan sl_law_ring sl_law_rest sl_law_within sl_is_integer sl_ask_size sl_is_thing sl_set_of sl_ask_things sl_checked_lot sl_Minit sl_Meq sl_Minvert sl_Mholds sl_blocker sl_side_of sl_law_pick sl_law_chosen sl_law_mixed_lots sl_law_moved sl_law_small sl_law_middle sl_law_any sl_law_draws sl_law_int sl_law_one_of_two sl_law_set_words sl_quiet_sets sl_law_quiet sl_law : Array (Option Value)} {oc_mask_of kV_mask_of dc_mask_of pm_mask_of cd_mask_of ct_mask_of oc_things_of kV_things_of dc_things_of pm_things_of cd_things_of ct_things_of oc_least_masks kV_least_masks dc_least_masks pm_least_masks cd_least_masks ct_least_masks oc_lots_of_masks kV_lots_of_masks dc_lots_of_masks pm_lots_of_masks cd_lots_of_masks ct_lots_of_masks oc_least_lots kV_least_lots dc_least_lots pm_least_lots cd_least_lots ct_least_lots oc_blocker_lots kV_blocker_lots dc_blocker_lots pm_blocker_lots cd_blocker_lots ct_blocker_lots oc_law_inside kV_law_inside dc_law_inside pm_law_inside cd_law_inside ct_law_inside oc_law_common kV_law_common dc_law_common pm_law_common cd_law_common ct_law_common oc_law_subsets kV_law_subsets dc_law_subsets pm_law_subsets cd_law_subsets ct_law_subsets oc_law_least kV_law_least dc_law_least pm_law_least cd_law_least ct_law_least oc_law_holds kV_law_holds dc_law_holds pm_law_holds cd_law_holds ct_law_holds oc_law_meets kV_law_meets dc_law_meets pm_law_meets cd_law_meets ct_law_meets oc_law_blocker kV_law_blocker dc_law_blocker pm_law_blocker cd_law_blocker ct_law_blocker oc_law_sized kV_law_sized dc_law_sized pm_law_sized cd_law_sized ct_law_sized oc_law_fan kV_law_fan dc_law_fan pm_law_fan cd_law_fan ct_law_fan oc_law_ring kV_law_ring dc_law_ring pm_law_ring cd_law_ring ct_law_ring oc_law_rest kV_law_rest dc_law_rest pm_law_rest cd_law_rest ct_law_rest oc_law_within kV_law_within dc_law_within pm_law_within cd_law_within ct_law_within oc_is_integer kV_is_integer dc_is_integer pm_is_integer cd_is_integer ct_is_integer oc_ask_size kV_ask_size dc_ask_size pm_ask_size cd_ask_size ct_ask_size oc_is_thing kV_is_thing dc_is_thing pm_is_thing cd_is_thing ct_is_thing oc_set_of kV_set_of dc_set_of pm_set_of cd_set_of ct_set_of oc_ask_things kV_ask_things dc_ask_things pm_ask_things cd_ask_things ct_ask_things oc_checked_lot kV_checked_lot dc_checked_lot pm_checked_lot cd_checked_lot ct_checked_lot oc_Minit kV_Minit dc_Minit pm_Minit cd_Minit ct_Minit oc_Meq kV_Meq dc_Meq pm_Meq cd_Meq ct_Meq oc_Minvert kV_Minvert dc_Minvert pm_Minvert cd_Minvert ct_Minvert oc_Mholds kV_Mholds dc_Mholds pm_Mholds cd_Mholds ct_Mholds oc_blocker kV_blocker dc_blocker pm_blocker cd_blocker ct_blocker oc_side_of kV_side_of dc_side_of pm_side_of cd_side_of ct_side_of oc_law_pick kV_law_pick dc_law_pick pm_law_pick cd_law_pick ct_law_pick oc_law_chosen kV_law_chosen dc_law_chosen pm_law_chosen cd_law_chosen ct_law_chosen oc_law_mixed_lots kV_law_mixed_lots dc_law_mixed_lots pm_law_mixed_lots cd_law_mixed_lots ct_law_mixed_lots oc_law_moved kV_law_moved dc_law_moved pm_law_moved cd_law_moved ct_law_moved oc_law_small kV_law_small dc_law_small pm_law_small cd_law_small ct_law_small oc_law_middle kV_law_middle dc_law_middle pm_law_middle cd_law_middle ct_law_middle oc_law_any kV_law_any dc_law_any pm_law_any cd_law_any ct_law_any oc_law_draws kV_law_draws dc_law_draws pm_law_draws cd_law_draws ct_law_draws oc_law_int kV_law_int dc_law_int pm_law_int cd_law_int ct_law_int oc_law_one_of_two kV_law_one_of_two dc_law_one_of_two pm_law_one_of_two cd_law_one_of_two ct_law_one_of_two oc_law_set_words kV_law_set_words dc_law_set_words pm_law_set_words cd_law_set_words ct_law_set_words oc_quiet_sets kV_quiet_sets dc_quiet_sets pm_quiet_sets cd_quiet_sets ct_quiet_sets oc_law_quiet kV_law_quiet dc_law_quiet pm_law_quiet cd_law_quiet ct_law_quiet oc_law kV_law dc_law pm_law cd_law ct_law : Value}
    {ocB dVB kVB docB pmB ctB cclB clB : Value} {odB anB cddB cldB : Option Addr} {cda ccB : Addr} {slB ccsB cslB : Array (Option Value)} {vsB : Array Value} {file : Str} {tf : Tok} {par : Arguments} {ar : Arg} {j : Nat} {p0 p1 p2 p3 p4 p5 p6 p7 p8 p9 p10 p11 p12 : Pos}
    (aC : PySem.W.nsIn K mainGlobals "Family" = some (some (.ref C)))
    (aB : PySem.W.nsIn K mainGlobals "BadSet" = some (some (.ref CB)))
    (aM : PySem.W.nsIn K mainGlobals "MOST_THINGS" = some (some (.int 60 tM)))
    (a_mask_of : PySem.W.nsIn K mainGlobals "mask_of" = some (some (.ref f_mask_of)))
    (l_mask_of : K.lookup f_mask_of = some ⟨oc_mask_of, od_mask_of, .func (PySem.W.fnOf "mask_of" "mask_of" (defArgs s_mask_of) (defBody s_mask_of) (defScope s_mask_of) .none kV_mask_of dc_mask_of pm_mask_of an_mask_of cd_mask_of ct_mask_of), sl_mask_of⟩)
    (c_mask_of : PySem.W.codeIn K cd_mask_of "mask_of" = true)
    (k_mask_of : PySem.W.keepIn K (.ref f_mask_of) = true)
    (a_things_of : PySem.W.nsIn K mainGlobals "things_of" = some (some (.ref f_things_of)))
    (l_things_of : K.lookup f_things_of = some ⟨oc_things_of, od_things_of, .func (PySem.W.fnOf "things_of" "things_of" (defArgs s_things_of) (defBody s_things_of) (defScope s_things_of) .none kV_things_of dc_things_of pm_things_of an_things_of cd_things_of ct_things_of), sl_things_of⟩)
    (c_things_of : PySem.W.codeIn K cd_things_of "things_of" = true)
    (k_things_of : PySem.W.keepIn K (.ref f_things_of) = true)
    (a_least_masks : PySem.W.nsIn K mainGlobals "least_masks" = some (some (.ref f_least_masks)))
    (l_least_masks : K.lookup f_least_masks = some ⟨oc_least_masks, od_least_masks, .func (PySem.W.fnOf "least_masks" "least_masks" (defArgs s_least_masks) (defBody s_least_masks) (defScope s_least_masks) .none kV_least_masks dc_least_masks pm_least_masks an_least_masks cd_least_masks ct_least_masks), sl_least_masks⟩)
    (c_least_masks : PySem.W.codeIn K cd_least_masks "least_masks" = true)
    (k_least_masks : PySem.W.keepIn K (.ref f_least_masks) = true)
    (a_lots_of_masks : PySem.W.nsIn K mainGlobals "lots_of_masks" = some (some (.ref f_lots_of_masks)))
    (l_lots_of_masks : K.lookup f_lots_of_masks = some ⟨oc_lots_of_masks, od_lots_of_masks, .func (PySem.W.fnOf "lots_of_masks" "lots_of_masks" (defArgs s_lots_of_masks) (defBody s_lots_of_masks) (defScope s_lots_of_masks) .none kV_lots_of_masks dc_lots_of_masks pm_lots_of_masks an_lots_of_masks cd_lots_of_masks ct_lots_of_masks), sl_lots_of_masks⟩)
    (c_lots_of_masks : PySem.W.codeIn K cd_lots_of_masks "lots_of_masks" = true)
    (k_lots_of_masks : PySem.W.keepIn K (.ref f_lots_of_masks) = true)
    (a_least_lots : PySem.W.nsIn K mainGlobals "least_lots" = some (some (.ref f_least_lots)))
    (l_least_lots : K.lookup f_least_lots = some ⟨oc_least_lots, od_least_lots, .func (PySem.W.fnOf "least_lots" "least_lots" (defArgs s_least_lots) (defBody s_least_lots) (defScope s_least_lots) .none kV_least_lots dc_least_lots pm_least_lots an_least_lots cd_least_lots ct_least_lots), sl_least_lots⟩)
    (c_least_lots : PySem.W.codeIn K cd_least_lots "least_lots" = true)
    (k_least_lots : PySem.W.keepIn K (.ref f_least_lots) = true)
    (a_blocker_lots : PySem.W.nsIn K mainGlobals "blocker_lots" = some (some (.ref f_blocker_lots)))
    (l_blocker_lots : K.lookup f_blocker_lots = some ⟨oc_blocker_lots, od_blocker_lots, .func (PySem.W.fnOf "blocker_lots" "blocker_lots" (defArgs s_blocker_lots) (defBody s_blocker_lots) (defScope s_blocker_lots) .none kV_blocker_lots dc_blocker_lots pm_blocker_lots an_blocker_lots cd_blocker_lots ct_blocker_lots), sl_blocker_lots⟩)
    (c_blocker_lots : PySem.W.codeIn K cd_blocker_lots "blocker_lots" = true)
    (k_blocker_lots : PySem.W.keepIn K (.ref f_blocker_lots) = true)
    (a_law_inside : PySem.W.nsIn K mainGlobals "_law_inside" = some (some (.ref f_law_inside)))
    (l_law_inside : K.lookup f_law_inside = some ⟨oc_law_inside, od_law_inside, .func (PySem.W.fnOf "_law_inside" "_law_inside" (defArgs s_law_inside) (defBody s_law_inside) (defScope s_law_inside) .none kV_law_inside dc_law_inside pm_law_inside an_law_inside cd_law_inside ct_law_inside), sl_law_inside⟩)
    (c_law_inside : PySem.W.codeIn K cd_law_inside "_law_inside" = true)
    (k_law_inside : PySem.W.keepIn K (.ref f_law_inside) = true)
    (a_law_common : PySem.W.nsIn K mainGlobals "_law_common" = some (some (.ref f_law_common)))
    (l_law_common : K.lookup f_law_common = some ⟨oc_law_common, od_law_common, .func (PySem.W.fnOf "_law_common" "_law_common" (defArgs s_law_common) (defBody s_law_common) (defScope s_law_common) .none kV_law_common dc_law_common pm_law_common an_law_common cd_law_common ct_law_common), sl_law_common⟩)
    (c_law_common : PySem.W.codeIn K cd_law_common "_law_common" = true)
    (k_law_common : PySem.W.keepIn K (.ref f_law_common) = true)
    (a_law_subsets : PySem.W.nsIn K mainGlobals "_law_subsets" = some (some (.ref f_law_subsets)))
    (l_law_subsets : K.lookup f_law_subsets = some ⟨oc_law_subsets, od_law_subsets, .func (PySem.W.fnOf "_law_subsets" "_law_subsets" (defArgs s_law_subsets) (defBody s_law_subsets) (defScope s_law_subsets) .none kV_law_subsets dc_law_subsets pm_law_subsets an_law_subsets cd_law_subsets ct_law_subsets), sl_law_subsets⟩)
    (c_law_subsets : PySem.W.codeIn K cd_law_subsets "_law_subsets" = true)
    (k_law_subsets : PySem.W.keepIn K (.ref f_law_subsets) = true)
    (a_law_least : PySem.W.nsIn K mainGlobals "_law_least" = some (some (.ref f_law_least)))
    (l_law_least : K.lookup f_law_least = some ⟨oc_law_least, od_law_least, .func (PySem.W.fnOf "_law_least" "_law_least" (defArgs s_law_least) (defBody s_law_least) (defScope s_law_least) .none kV_law_least dc_law_least pm_law_least an_law_least cd_law_least ct_law_least), sl_law_least⟩)
    (c_law_least : PySem.W.codeIn K cd_law_least "_law_least" = true)
    (k_law_least : PySem.W.keepIn K (.ref f_law_least) = true)
    (a_law_holds : PySem.W.nsIn K mainGlobals "_law_holds" = some (some (.ref f_law_holds)))
    (l_law_holds : K.lookup f_law_holds = some ⟨oc_law_holds, od_law_holds, .func (PySem.W.fnOf "_law_holds" "_law_holds" (defArgs s_law_holds) (defBody s_law_holds) (defScope s_law_holds) .none kV_law_holds dc_law_holds pm_law_holds an_law_holds cd_law_holds ct_law_holds), sl_law_holds⟩)
    (c_law_holds : PySem.W.codeIn K cd_law_holds "_law_holds" = true)
    (k_law_holds : PySem.W.keepIn K (.ref f_law_holds) = true)
    (a_law_meets : PySem.W.nsIn K mainGlobals "_law_meets" = some (some (.ref f_law_meets)))
    (l_law_meets : K.lookup f_law_meets = some ⟨oc_law_meets, od_law_meets, .func (PySem.W.fnOf "_law_meets" "_law_meets" (defArgs s_law_meets) (defBody s_law_meets) (defScope s_law_meets) .none kV_law_meets dc_law_meets pm_law_meets an_law_meets cd_law_meets ct_law_meets), sl_law_meets⟩)
    (c_law_meets : PySem.W.codeIn K cd_law_meets "_law_meets" = true)
    (k_law_meets : PySem.W.keepIn K (.ref f_law_meets) = true)
    (a_law_blocker : PySem.W.nsIn K mainGlobals "_law_blocker" = some (some (.ref f_law_blocker)))
    (l_law_blocker : K.lookup f_law_blocker = some ⟨oc_law_blocker, od_law_blocker, .func (PySem.W.fnOf "_law_blocker" "_law_blocker" (defArgs s_law_blocker) (defBody s_law_blocker) (defScope s_law_blocker) .none kV_law_blocker dc_law_blocker pm_law_blocker an_law_blocker cd_law_blocker ct_law_blocker), sl_law_blocker⟩)
    (c_law_blocker : PySem.W.codeIn K cd_law_blocker "_law_blocker" = true)
    (k_law_blocker : PySem.W.keepIn K (.ref f_law_blocker) = true)
    (a_law_sized : PySem.W.nsIn K mainGlobals "_law_sized" = some (some (.ref f_law_sized)))
    (l_law_sized : K.lookup f_law_sized = some ⟨oc_law_sized, od_law_sized, .func (PySem.W.fnOf "_law_sized" "_law_sized" (defArgs s_law_sized) (defBody s_law_sized) (defScope s_law_sized) .none kV_law_sized dc_law_sized pm_law_sized an_law_sized cd_law_sized ct_law_sized), sl_law_sized⟩)
    (c_law_sized : PySem.W.codeIn K cd_law_sized "_law_sized" = true)
    (k_law_sized : PySem.W.keepIn K (.ref f_law_sized) = true)
    (a_law_fan : PySem.W.nsIn K mainGlobals "_law_fan" = some (some (.ref f_law_fan)))
    (l_law_fan : K.lookup f_law_fan = some ⟨oc_law_fan, od_law_fan, .func (PySem.W.fnOf "_law_fan" "_law_fan" (defArgs s_law_fan) (defBody s_law_fan) (defScope s_law_fan) .none kV_law_fan dc_law_fan pm_law_fan an_law_fan cd_law_fan ct_law_fan), sl_law_fan⟩)
    (c_law_fan : PySem.W.codeIn K cd_law_fan "_law_fan" = true)
    (k_law_fan : PySem.W.keepIn K (.ref f_law_fan) = true)
    (a_law_ring : PySem.W.nsIn K mainGlobals "_law_ring" = some (some (.ref f_law_ring)))
    (l_law_ring : K.lookup f_law_ring = some ⟨oc_law_ring, od_law_ring, .func (PySem.W.fnOf "_law_ring" "_law_ring" (defArgs s_law_ring) (defBody s_law_ring) (defScope s_law_ring) .none kV_law_ring dc_law_ring pm_law_ring an_law_ring cd_law_ring ct_law_ring), sl_law_ring⟩)
    (c_law_ring : PySem.W.codeIn K cd_law_ring "_law_ring" = true)
    (k_law_ring : PySem.W.keepIn K (.ref f_law_ring) = true)
    (a_law_rest : PySem.W.nsIn K mainGlobals "_law_rest" = some (some (.ref f_law_rest)))
    (l_law_rest : K.lookup f_law_rest = some ⟨oc_law_rest, od_law_rest, .func (PySem.W.fnOf "_law_rest" "_law_rest" (defArgs s_law_rest) (defBody s_law_rest) (defScope s_law_rest) .none kV_law_rest dc_law_rest pm_law_rest an_law_rest cd_law_rest ct_law_rest), sl_law_rest⟩)
    (c_law_rest : PySem.W.codeIn K cd_law_rest "_law_rest" = true)
    (k_law_rest : PySem.W.keepIn K (.ref f_law_rest) = true)
    (a_law_within : PySem.W.nsIn K mainGlobals "_law_within" = some (some (.ref f_law_within)))
    (l_law_within : K.lookup f_law_within = some ⟨oc_law_within, od_law_within, .func (PySem.W.fnOf "_law_within" "_law_within" (defArgs s_law_within) (defBody s_law_within) (defScope s_law_within) .none kV_law_within dc_law_within pm_law_within an_law_within cd_law_within ct_law_within), sl_law_within⟩)
    (c_law_within : PySem.W.codeIn K cd_law_within "_law_within" = true)
    (k_law_within : PySem.W.keepIn K (.ref f_law_within) = true)
    (a_is_integer : PySem.W.nsIn K mainGlobals "is_integer" = some (some (.ref f_is_integer)))
    (l_is_integer : K.lookup f_is_integer = some ⟨oc_is_integer, od_is_integer, .func (PySem.W.fnOf "is_integer" "is_integer" (defArgs s_is_integer) (defBody s_is_integer) (defScope s_is_integer) .none kV_is_integer dc_is_integer pm_is_integer an_is_integer cd_is_integer ct_is_integer), sl_is_integer⟩)
    (c_is_integer : PySem.W.codeIn K cd_is_integer "is_integer" = true)
    (k_is_integer : PySem.W.keepIn K (.ref f_is_integer) = true)
    (a_ask_size : PySem.W.nsIn K mainGlobals "ask_size" = some (some (.ref f_ask_size)))
    (l_ask_size : K.lookup f_ask_size = some ⟨oc_ask_size, od_ask_size, .func (PySem.W.fnOf "ask_size" "ask_size" (defArgs s_ask_size) (defBody s_ask_size) (defScope s_ask_size) .none kV_ask_size dc_ask_size pm_ask_size an_ask_size cd_ask_size ct_ask_size), sl_ask_size⟩)
    (c_ask_size : PySem.W.codeIn K cd_ask_size "ask_size" = true)
    (k_ask_size : PySem.W.keepIn K (.ref f_ask_size) = true)
    (a_is_thing : PySem.W.nsIn K mainGlobals "is_thing" = some (some (.ref f_is_thing)))
    (l_is_thing : K.lookup f_is_thing = some ⟨oc_is_thing, od_is_thing, .func (PySem.W.fnOf "is_thing" "is_thing" (defArgs s_is_thing) (defBody s_is_thing) (defScope s_is_thing) .none kV_is_thing dc_is_thing pm_is_thing an_is_thing cd_is_thing ct_is_thing), sl_is_thing⟩)
    (c_is_thing : PySem.W.codeIn K cd_is_thing "is_thing" = true)
    (k_is_thing : PySem.W.keepIn K (.ref f_is_thing) = true)
    (a_set_of : PySem.W.nsIn K mainGlobals "set_of" = some (some (.ref f_set_of)))
    (l_set_of : K.lookup f_set_of = some ⟨oc_set_of, od_set_of, .func (PySem.W.fnOf "set_of" "set_of" (defArgs s_set_of) (defBody s_set_of) (defScope s_set_of) .none kV_set_of dc_set_of pm_set_of an_set_of cd_set_of ct_set_of), sl_set_of⟩)
    (c_set_of : PySem.W.codeIn K cd_set_of "set_of" = true)
    (k_set_of : PySem.W.keepIn K (.ref f_set_of) = true)
    (a_ask_things : PySem.W.nsIn K mainGlobals "ask_things" = some (some (.ref f_ask_things)))
    (l_ask_things : K.lookup f_ask_things = some ⟨oc_ask_things, od_ask_things, .func (PySem.W.fnOf "ask_things" "ask_things" (defArgs s_ask_things) (defBody s_ask_things) (defScope s_ask_things) .none kV_ask_things dc_ask_things pm_ask_things an_ask_things cd_ask_things ct_ask_things), sl_ask_things⟩)
    (c_ask_things : PySem.W.codeIn K cd_ask_things "ask_things" = true)
    (k_ask_things : PySem.W.keepIn K (.ref f_ask_things) = true)
    (a_checked_lot : PySem.W.nsIn K mainGlobals "checked_lot" = some (some (.ref f_checked_lot)))
    (l_checked_lot : K.lookup f_checked_lot = some ⟨oc_checked_lot, od_checked_lot, .func (PySem.W.fnOf "checked_lot" "checked_lot" (defArgs s_checked_lot) (defBody s_checked_lot) (defScope s_checked_lot) .none kV_checked_lot dc_checked_lot pm_checked_lot an_checked_lot cd_checked_lot ct_checked_lot), sl_checked_lot⟩)
    (c_checked_lot : PySem.W.codeIn K cd_checked_lot "checked_lot" = true)
    (k_checked_lot : PySem.W.keepIn K (.ref f_checked_lot) = true)
    (a_Minit : PySem.W.findIn K (.ref C) "__init__" = some (some (.ref f_Minit)))
    (i_Minit : PySem.W.isFn K (.ref f_Minit) = true)
    (l_Minit : K.lookup f_Minit = some ⟨oc_Minit, od_Minit, .func (PySem.W.fnOf "__init__" "Family.__init__" (defArgs s_Family_init) (defBody s_Family_init) (defScope s_Family_init) .none kV_Minit dc_Minit pm_Minit an_Minit cd_Minit ct_Minit), sl_Minit⟩)
    (c_Minit : PySem.W.codeIn K cd_Minit "Family.__init__" = true)
    (k_Minit : PySem.W.keepIn K (.ref f_Minit) = true)
    (a_Meq : PySem.W.findIn K (.ref C) "__eq__" = some (some (.ref f_Meq)))
    (i_Meq : PySem.W.isFn K (.ref f_Meq) = true)
    (l_Meq : K.lookup f_Meq = some ⟨oc_Meq, od_Meq, .func (PySem.W.fnOf "__eq__" "Family.__eq__" (defArgs s_Family_eq) (defBody s_Family_eq) (defScope s_Family_eq) .none kV_Meq dc_Meq pm_Meq an_Meq cd_Meq ct_Meq), sl_Meq⟩)
    (c_Meq : PySem.W.codeIn K cd_Meq "Family.__eq__" = true)
    (k_Meq : PySem.W.keepIn K (.ref f_Meq) = true)
    (a_Minvert : PySem.W.findIn K (.ref C) "__invert__" = some (some (.ref f_Minvert)))
    (i_Minvert : PySem.W.isFn K (.ref f_Minvert) = true)
    (l_Minvert : K.lookup f_Minvert = some ⟨oc_Minvert, od_Minvert, .func (PySem.W.fnOf "__invert__" "Family.__invert__" (defArgs s_Family_invert) (defBody s_Family_invert) (defScope s_Family_invert) .none kV_Minvert dc_Minvert pm_Minvert an_Minvert cd_Minvert ct_Minvert), sl_Minvert⟩)
    (c_Minvert : PySem.W.codeIn K cd_Minvert "Family.__invert__" = true)
    (k_Minvert : PySem.W.keepIn K (.ref f_Minvert) = true)
    (a_Mholds : PySem.W.findIn K (.ref C) "holds" = some (some (.ref f_Mholds)))
    (i_Mholds : PySem.W.isFn K (.ref f_Mholds) = true)
    (l_Mholds : K.lookup f_Mholds = some ⟨oc_Mholds, od_Mholds, .func (PySem.W.fnOf "holds" "Family.holds" (defArgs s_Family_holds) (defBody s_Family_holds) (defScope s_Family_holds) .none kV_Mholds dc_Mholds pm_Mholds an_Mholds cd_Mholds ct_Mholds), sl_Mholds⟩)
    (c_Mholds : PySem.W.codeIn K cd_Mholds "Family.holds" = true)
    (k_Mholds : PySem.W.keepIn K (.ref f_Mholds) = true)
    (a_blocker : PySem.W.nsIn K mainGlobals "blocker" = some (some (.ref f_blocker)))
    (l_blocker : K.lookup f_blocker = some ⟨oc_blocker, od_blocker, .func (PySem.W.fnOf "blocker" "blocker" (defArgs s_blocker) (defBody s_blocker) (defScope s_blocker) .none kV_blocker dc_blocker pm_blocker an_blocker cd_blocker ct_blocker), sl_blocker⟩)
    (c_blocker : PySem.W.codeIn K cd_blocker "blocker" = true)
    (k_blocker : PySem.W.keepIn K (.ref f_blocker) = true)
    (a_side_of : PySem.W.nsIn K mainGlobals "side_of" = some (some (.ref f_side_of)))
    (l_side_of : K.lookup f_side_of = some ⟨oc_side_of, od_side_of, .func (PySem.W.fnOf "side_of" "side_of" (defArgs s_side_of) (defBody s_side_of) (defScope s_side_of) .none kV_side_of dc_side_of pm_side_of an_side_of cd_side_of ct_side_of), sl_side_of⟩)
    (c_side_of : PySem.W.codeIn K cd_side_of "side_of" = true)
    (k_side_of : PySem.W.keepIn K (.ref f_side_of) = true)
    (a_law_pick : PySem.W.nsIn K mainGlobals "_law_pick" = some (some (.ref f_law_pick)))
    (l_law_pick : K.lookup f_law_pick = some ⟨oc_law_pick, od_law_pick, .func (PySem.W.fnOf "_law_pick" "_law_pick" (defArgs s_law_pick) (defBody s_law_pick) (defScope s_law_pick) .none kV_law_pick dc_law_pick pm_law_pick an_law_pick cd_law_pick ct_law_pick), sl_law_pick⟩)
    (c_law_pick : PySem.W.codeIn K cd_law_pick "_law_pick" = true)
    (k_law_pick : PySem.W.keepIn K (.ref f_law_pick) = true)
    (a_law_chosen : PySem.W.nsIn K mainGlobals "_law_chosen" = some (some (.ref f_law_chosen)))
    (l_law_chosen : K.lookup f_law_chosen = some ⟨oc_law_chosen, od_law_chosen, .func (PySem.W.fnOf "_law_chosen" "_law_chosen" (defArgs s_law_chosen) (defBody s_law_chosen) (defScope s_law_chosen) .none kV_law_chosen dc_law_chosen pm_law_chosen an_law_chosen cd_law_chosen ct_law_chosen), sl_law_chosen⟩)
    (c_law_chosen : PySem.W.codeIn K cd_law_chosen "_law_chosen" = true)
    (k_law_chosen : PySem.W.keepIn K (.ref f_law_chosen) = true)
    (a_law_mixed_lots : PySem.W.nsIn K mainGlobals "_law_mixed_lots" = some (some (.ref f_law_mixed_lots)))
    (l_law_mixed_lots : K.lookup f_law_mixed_lots = some ⟨oc_law_mixed_lots, od_law_mixed_lots, .func (PySem.W.fnOf "_law_mixed_lots" "_law_mixed_lots" (defArgs s_law_mixed_lots) (defBody s_law_mixed_lots) (defScope s_law_mixed_lots) .none kV_law_mixed_lots dc_law_mixed_lots pm_law_mixed_lots an_law_mixed_lots cd_law_mixed_lots ct_law_mixed_lots), sl_law_mixed_lots⟩)
    (c_law_mixed_lots : PySem.W.codeIn K cd_law_mixed_lots "_law_mixed_lots" = true)
    (k_law_mixed_lots : PySem.W.keepIn K (.ref f_law_mixed_lots) = true)
    (a_law_moved : PySem.W.nsIn K mainGlobals "_law_moved" = some (some (.ref f_law_moved)))
    (l_law_moved : K.lookup f_law_moved = some ⟨oc_law_moved, od_law_moved, .func (PySem.W.fnOf "_law_moved" "_law_moved" (defArgs s_law_moved) (defBody s_law_moved) (defScope s_law_moved) .none kV_law_moved dc_law_moved pm_law_moved an_law_moved cd_law_moved ct_law_moved), sl_law_moved⟩)
    (c_law_moved : PySem.W.codeIn K cd_law_moved "_law_moved" = true)
    (k_law_moved : PySem.W.keepIn K (.ref f_law_moved) = true)
    (a_law_small : PySem.W.nsIn K mainGlobals "_law_small" = some (some (.ref f_law_small)))
    (l_law_small : K.lookup f_law_small = some ⟨oc_law_small, od_law_small, .func (PySem.W.fnOf "_law_small" "_law_small" (defArgs s_law_small) (defBody s_law_small) (defScope s_law_small) .none kV_law_small dc_law_small pm_law_small an_law_small cd_law_small ct_law_small), sl_law_small⟩)
    (c_law_small : PySem.W.codeIn K cd_law_small "_law_small" = true)
    (k_law_small : PySem.W.keepIn K (.ref f_law_small) = true)
    (a_law_middle : PySem.W.nsIn K mainGlobals "_law_middle" = some (some (.ref f_law_middle)))
    (l_law_middle : K.lookup f_law_middle = some ⟨oc_law_middle, od_law_middle, .func (PySem.W.fnOf "_law_middle" "_law_middle" (defArgs s_law_middle) (defBody s_law_middle) (defScope s_law_middle) .none kV_law_middle dc_law_middle pm_law_middle an_law_middle cd_law_middle ct_law_middle), sl_law_middle⟩)
    (c_law_middle : PySem.W.codeIn K cd_law_middle "_law_middle" = true)
    (k_law_middle : PySem.W.keepIn K (.ref f_law_middle) = true)
    (a_law_any : PySem.W.nsIn K mainGlobals "_law_any" = some (some (.ref f_law_any)))
    (l_law_any : K.lookup f_law_any = some ⟨oc_law_any, od_law_any, .func (PySem.W.fnOf "_law_any" "_law_any" (defArgs s_law_any) (defBody s_law_any) (defScope s_law_any) .none kV_law_any dc_law_any pm_law_any an_law_any cd_law_any ct_law_any), sl_law_any⟩)
    (c_law_any : PySem.W.codeIn K cd_law_any "_law_any" = true)
    (k_law_any : PySem.W.keepIn K (.ref f_law_any) = true)
    (a_law_draws : PySem.W.nsIn K mainGlobals "_law_draws" = some (some (.ref f_law_draws)))
    (l_law_draws : K.lookup f_law_draws = some ⟨oc_law_draws, od_law_draws, .func (PySem.W.fnOf "_law_draws" "_law_draws" (defArgs s_law_draws) (defBody s_law_draws) (defScope s_law_draws) .none kV_law_draws dc_law_draws pm_law_draws an_law_draws cd_law_draws ct_law_draws), sl_law_draws⟩)
    (c_law_draws : PySem.W.codeIn K cd_law_draws "_law_draws" = true)
    (k_law_draws : PySem.W.keepIn K (.ref f_law_draws) = true)
    (a_law_int : PySem.W.nsIn K mainGlobals "_law_int" = some (some (.ref f_law_int)))
    (l_law_int : K.lookup f_law_int = some ⟨oc_law_int, od_law_int, .func (PySem.W.fnOf "_law_int" "_law_int" (defArgs s_law_int) (defBody s_law_int) (defScope s_law_int) .none kV_law_int dc_law_int pm_law_int an_law_int cd_law_int ct_law_int), sl_law_int⟩)
    (c_law_int : PySem.W.codeIn K cd_law_int "_law_int" = true)
    (k_law_int : PySem.W.keepIn K (.ref f_law_int) = true)
    (a_law_one_of_two : PySem.W.nsIn K mainGlobals "_law_one_of_two" = some (some (.ref f_law_one_of_two)))
    (l_law_one_of_two : K.lookup f_law_one_of_two = some ⟨oc_law_one_of_two, od_law_one_of_two, .func (PySem.W.fnOf "_law_one_of_two" "_law_one_of_two" (defArgs s_law_one_of_two) (defBody s_law_one_of_two) (defScope s_law_one_of_two) .none kV_law_one_of_two dc_law_one_of_two pm_law_one_of_two an_law_one_of_two cd_law_one_of_two ct_law_one_of_two), sl_law_one_of_two⟩)
    (c_law_one_of_two : PySem.W.codeIn K cd_law_one_of_two "_law_one_of_two" = true)
    (k_law_one_of_two : PySem.W.keepIn K (.ref f_law_one_of_two) = true)
    (a_law_set_words : PySem.W.nsIn K mainGlobals "_law_set_words" = some (some (.ref f_law_set_words)))
    (l_law_set_words : K.lookup f_law_set_words = some ⟨oc_law_set_words, od_law_set_words, .func (PySem.W.fnOf "_law_set_words" "_law_set_words" (defArgs s_law_set_words) (defBody s_law_set_words) (defScope s_law_set_words) .none kV_law_set_words dc_law_set_words pm_law_set_words an_law_set_words cd_law_set_words ct_law_set_words), sl_law_set_words⟩)
    (c_law_set_words : PySem.W.codeIn K cd_law_set_words "_law_set_words" = true)
    (k_law_set_words : PySem.W.keepIn K (.ref f_law_set_words) = true)
    (a_quiet_sets : PySem.W.nsIn K mainGlobals "quiet_sets" = some (some (.ref f_quiet_sets)))
    (l_quiet_sets : K.lookup f_quiet_sets = some ⟨oc_quiet_sets, od_quiet_sets, .func (PySem.W.fnOf "quiet_sets" "quiet_sets" (defArgs s_quiet_sets) (defBody s_quiet_sets) (defScope s_quiet_sets) .none kV_quiet_sets dc_quiet_sets pm_quiet_sets an_quiet_sets cd_quiet_sets ct_quiet_sets), sl_quiet_sets⟩)
    (c_quiet_sets : PySem.W.codeIn K cd_quiet_sets "quiet_sets" = true)
    (k_quiet_sets : PySem.W.keepIn K (.ref f_quiet_sets) = true)
    (a_law_quiet : PySem.W.nsIn K mainGlobals "_law_quiet" = some (some (.ref f_law_quiet)))
    (l_law_quiet : K.lookup f_law_quiet = some ⟨oc_law_quiet, od_law_quiet, .func (PySem.W.fnOf "_law_quiet" "_law_quiet" (defArgs s_law_quiet) (defBody s_law_quiet) (defScope s_law_quiet) .none kV_law_quiet dc_law_quiet pm_law_quiet an_law_quiet cd_law_quiet ct_law_quiet), sl_law_quiet⟩)
    (c_law_quiet : PySem.W.codeIn K cd_law_quiet "_law_quiet" = true)
    (k_law_quiet : PySem.W.keepIn K (.ref f_law_quiet) = true)
    (a_law : PySem.W.nsIn K mainGlobals "law" = some (some (.ref f_law)))
    (l_law : K.lookup f_law = some ⟨oc_law, od_law, .func (PySem.W.fnOf "law" "law" (defArgs s_law) (defBody s_law) (defScope s_law) .none kV_law dc_law pm_law an_law cd_law ct_law), sl_law⟩)
    (c_law : PySem.W.codeIn K cd_law "law" = true)
    (k_law : PySem.W.keepIn K (.ref f_law) = true)
    (pg : PySem.W.plainGet K C Str.empty = true)
    (hd : PySem.W.hasDictIn K C = true)
    (po : PySem.W.plainOver K C = true)
    (sa : PySem.W.findIn K (.ref C) "__setattr__" = some (some (.builtin "object.__setattr__")))
    (mk : PySem.W.makesIn K C = true)
    (kc : PySem.W.keepIn K (.ref C) = true)
    (nT : PySem.W.findIn K (.ref C) "things" = some none)
    (nL : PySem.W.findIn K (.ref C) "lots" = some none)
    (nf : PySem.W.notFirst K C (.ref C) = true)
    (oc1 : PySem.W.findIn K (.ref C) "__class__" = some (some (.builtin "object.__class__")))
    (oc2 : PySem.W.specialIn K (.builtin "object.__class__") "__get__" = some (some (.builtin "getset_descriptor.__get__")))
    (oc3 : PySem.W.takesIn K (.builtin "object.__class__") = some true)
    (oc4 : PySem.W.mroIn K C (.type "object") = some true)
    (b1 : PySem.W.findIn K (.ref CB) "__init__" = some (some (.ref fB)))
    (b2 : PySem.W.excInitIn K CB excB "Exception.__new__" = true)
    (b3 : PySem.W.excOver K CB excB = true)
    (b4 : PySem.W.isFn K (.ref fB) = true)
    (b5 : K.lookup fB = some ⟨ocB, odB, .func (PySem.W.ksFn "__init__" "BadSet.__init__" par (excBody "bad set: place " j p0 p1 p2 p3 p4 p5 p6 p7 p8 p9 p10 p11 p12) excScope dVB kVB docB pmB anB (.ref cda) ctB ccB), slB⟩)
    (b6 : PySem.W.codeIn K (.ref cda) "BadSet.__init__" = true)
    (b7 : ∀ u v : Value, bindArgs (PySem.W.ksFn "__init__" "BadSet.__init__" par (excBody "bad set: place " j p0 p1 p2 p3 p4 p5 p6 p7 p8 p9 p10 p11 p12) excScope dVB kVB docB pmB anB (.ref cda) ctB ccB) ⟨[u, v], []⟩ = (pure [(("self" : Str), u), (("place" : Str), v)] : Sem (List (Str × Value))))
    (b8 : (par.posonlyargs ++ par.args).head? = some ar)
    (b9 : ar.arg = "self")
    (b10 : K.lookup cda = some ⟨cclB, cddB, .fields vsB, ccsB⟩)
    (b11 : vsB[2]? = some (.str file tf))
    (b12 : ((P.main.file : Str) == file) = true)
    (b13 : K.lookup ccB = some ⟨clB, cldB, .cell (some (.ref CB)), cslB⟩)
    (bC : ∀ L : Addr, ∃ pl : Sem Bool, eval (.Call (.Attribute (.Call (.Name "super" p0) [] [] p1) "__init__" p2) [.JoinedStr [.Constant (.str "bad set: place ") j p3, .FormattedValue (.Name "place" p4) (-1) none p5] p6] [] p7) (PySem.W.ksEnv "BadSet.__init__" excScope L fB (.ref cda) ccB) = (do let ov ← attributeBase (.Call (.Name "super" p0) [] [] p1) "__init__" (PySem.W.ksEnv "BadSet.__init__" excScope L fB (.ref cda) ccB) (eval (.Call (.Name "super" p0) [] [] p1) (PySem.W.ksEnv "BadSet.__init__" excScope L fB (.ref cda) ccB)); standAt p2.atName; let (fm, first) ← holding [ov] (getMethod ov "__init__" pl); callWith p7 fm first (backTo p7 (starEach [.JoinedStr [.Constant (.str "bad set: place ") j p3, .FormattedValue (.Name "place" p4) (-1) none p5] p6] (PySem.W.ksEnv "BadSet.__init__" excScope L fB (.ref cda) ccB))) []))
    (b14 : PySem.W.ks_superIn K CB CB "__init__" = some (some (.builtin "Exception.__init__")))
    (b15 : PySem.W.nsIn K cStatics "thirdparty.any" = some none)
    (b16 : PySem.W.subIn K (.ref CB) (.type "Exception") = some true)
    (b17 : PySem.W.mroIn K CB (.ref CB) = some true)
    (b18 : PySem.W.findIn K (.ref CB) "__setattr__" = some (some (.builtin "object.__setattr__")))
    (b19 : PySem.W.takerIn K CB "place" = some none)
    (b20 : PySem.W.hasDictIn K CB = true)
    (b21 : PySem.W.subIn K (.ref CB) (.type "BaseException") = some true)
    (b22 : PySem.W.typeIn K (.ref CB) = some (.type "type"))
    (b23 : PySem.W.keepIn K (.ref CB) = true)
    (b24 : (P.main.scope.names.lookup ("super" : Str)).isSome = false)
    (b25 : PySem.W.findIn K (.ref CB) "__getattribute__" = some (some (.builtin "BaseException.__getattribute__")))
    (b26 : PySem.W.findIn K (.ref CB) "__getattr__" = some none)
    (b27 : PySem.W.findIn K (.ref CB) "place" = some none)
    (b28 : PySem.W.nsIn K mainGlobals "super" = some none)
    (z_len : PySem.W.nsIn K mainGlobals "len" = some none)
    (z_sum : PySem.W.nsIn K mainGlobals "sum" = some none)
    (z_all : PySem.W.nsIn K mainGlobals "all" = some none)
    (z_any : PySem.W.nsIn K mainGlobals "any" = some none)
    (z_sorted : PySem.W.nsIn K mainGlobals "sorted" = some none)
    (z_tuple : PySem.W.nsIn K mainGlobals "tuple" = some none)
    (z_list : PySem.W.nsIn K mainGlobals "list" = some none)
    (z_int : PySem.W.nsIn K mainGlobals "int" = some none)
    (z_bool : PySem.W.nsIn K mainGlobals "bool" = some none)
    (z_range : PySem.W.nsIn K mainGlobals "range" = some none)
    (z_isinstance : PySem.W.nsIn K mainGlobals "isinstance" = some none)
    (z_min : PySem.W.nsIn K mainGlobals "min" = some none)
    (z_max : PySem.W.nsIn K mainGlobals "max" = some none)
    : ∃ fd : FuncData, (∀ (s : Shared) (v : Value), BindsTo s fd ⟨[v], []⟩ [("_law_script", v)]) ∧ ∀ base : Heap, K.In base → base.Ns mainGlobals mg → FnOk P w K mg base CX0 9 fa fd ["_law_script"] (Pure K p_law) := by
  have e := hfa.symm.trans (PySem.W.mg_of X G a_law)
  cases e
  refine ⟨PySem.W.fnOf "law" "law" (defArgs s_law) (defBody s_law) (defScope s_law) .none kV_law dc_law pm_law an_law cd_law ct_law, fun s v => .of_eq rfl, fun base _ _ => ?_⟩
  have T : Txt mg := ⟨PySem.W.mg_none_of X G z_len, PySem.W.mg_none_of X G z_sum, PySem.W.mg_none_of X G z_all, PySem.W.mg_none_of X G z_any, PySem.W.mg_none_of X G z_sorted, PySem.W.mg_none_of X G z_tuple, PySem.W.mg_none_of X G z_list, PySem.W.mg_none_of X G z_int, PySem.W.mg_none_of X G z_bool, PySem.W.mg_none_of X G z_range, PySem.W.mg_none_of X G z_isinstance, PySem.W.mg_none_of X G z_min, PySem.W.mg_none_of X G z_max⟩
  have cl : Cls K C := ⟨pg, hd, po, sa⟩
  have fc : FamC K mg C := ⟨⟨cl, oc1, oc2, oc3, oc4⟩, nT, nL, PySem.W.mg_of X G aC⟩
  have bc : BadC P K mg CB fB := ⟨⟨b1, b2, b3, b4, ⟨_, _, _, _, _, _, _, _, _, _, _, _, _, _, _, _, _, _, _, _, _, _, _, _, _, _, _, _, b5, b6, b7, b8, b9, ⟨_, _, _, _, _, _, b10, b11, b12⟩, bC, _, _, _, b13⟩, b14, b15, b16, b17, b18, b19, b20, b21, b22, b23, b24⟩, PySem.W.mg_of X G aB, PySem.W.mg_none_of X G b28⟩
  have xf : XfC K CB := ⟨b25, b26, b21, b20⟩
  have np := b27
  have hnf := nf
  have hM := PySem.W.mg_of X G aM
  have F_mask_of := fun_mk (st := s_mask_of) l_mask_of c_mask_of k_mask_of
  have y_mask_of := F_mask_of.binds (ps := ["things"]) fun _ _ _ _ _ _ us hl => match us, hl with | [_], _ => rfl
  have o_mask_of := ok_mask_of (P := P) (w := w) (base := base) F_mask_of T
  have d_mask_of : Cl P w K mg base 1 "mask_of" _ := ⟨_, _, _, .inl o_mask_of, PySem.W.mg_of X G a_mask_of, k_mask_of, y_mask_of⟩
  have F_things_of := fun_mk (st := s_things_of) l_things_of c_things_of k_things_of
  have y_things_of := F_things_of.binds (ps := ["mask"]) fun _ _ _ _ _ _ us hl => match us, hl with | [_], _ => rfl
  have o_things_of := ok_things_of (P := P) (w := w) (base := base) F_things_of T
  have d_things_of : Cl P w K mg base 1 "things_of" _ := ⟨_, _, _, .inl o_things_of, PySem.W.mg_of X G a_things_of, k_things_of, y_things_of⟩
  have F_least_masks := fun_mk (st := s_least_masks) l_least_masks c_least_masks k_least_masks
  have y_least_masks := F_least_masks.binds (ps := ["masks"]) fun _ _ _ _ _ _ us hl => match us, hl with | [_], _ => rfl
  have o_least_masks := ok_least_masks (P := P) (w := w) (base := base) F_least_masks T
  have d_least_masks : Cl P w K mg base 1 "least_masks" _ := ⟨_, _, _, .inl o_least_masks, PySem.W.mg_of X G a_least_masks, k_least_masks, y_least_masks⟩
  have F_lots_of_masks := fun_mk (st := s_lots_of_masks) l_lots_of_masks c_lots_of_masks k_lots_of_masks
  have y_lots_of_masks := F_lots_of_masks.binds (ps := ["masks"]) fun _ _ _ _ _ _ us hl => match us, hl with | [_], _ => rfl
  have o_lots_of_masks := ok_lots_of_masks (P := P) (w := w) (base := base) F_lots_of_masks T d_things_of
  have d_lots_of_masks : Cl P w K mg base 2 "lots_of_masks" _ := ⟨_, _, _, .inl o_lots_of_masks, PySem.W.mg_of X G a_lots_of_masks, k_lots_of_masks, y_lots_of_masks⟩
  have F_least_lots := fun_mk (st := s_least_lots) l_least_lots c_least_lots k_least_lots
  have y_least_lots := F_least_lots.binds (ps := ["lots"]) fun _ _ _ _ _ _ us hl => match us, hl with | [_], _ => rfl
  have o_least_lots := ok_least_lots (P := P) (w := w) (base := base) F_least_lots T d_mask_of d_least_masks d_lots_of_masks
  have d_least_lots : Cl P w K mg base 3 "least_lots" _ := ⟨_, _, _, .inl o_least_lots, PySem.W.mg_of X G a_least_lots, k_least_lots, y_least_lots⟩
  have F_blocker_lots := fun_mk (st := s_blocker_lots) l_blocker_lots c_blocker_lots k_blocker_lots
  have y_blocker_lots := F_blocker_lots.binds (ps := ["lots"]) fun _ _ _ _ _ _ us hl => match us, hl with | [_], _ => rfl
  have o_blocker_lots := ok_blocker_lots (P := P) (w := w) (base := base) F_blocker_lots T d_mask_of d_lots_of_masks
  have d_blocker_lots : Cl P w K mg base 3 "blocker_lots" _ := ⟨_, _, _, .inl o_blocker_lots, PySem.W.mg_of X G a_blocker_lots, k_blocker_lots, y_blocker_lots⟩
  have F_law_inside := fun_mk (st := s_law_inside) l_law_inside c_law_inside k_law_inside
  have y_law_inside := F_law_inside.binds (ps := ["_law_one", "_law_other"]) fun _ _ _ _ _ _ us hl => match us, hl with | [_, _], _ => rfl
  have o_law_inside := ok_law_inside (P := P) (w := w) (base := base) F_law_inside T
  have d_law_inside : Cl P w K mg base 1 "_law_inside" _ := ⟨_, _, _, .inl o_law_inside, PySem.W.mg_of X G a_law_inside, k_law_inside, y_law_inside⟩
  have F_law_common := fun_mk (st := s_law_common) l_law_common c_law_common k_law_common
  have y_law_common := F_law_common.binds (ps := ["_law_one", "_law_other"]) fun _ _ _ _ _ _ us hl => match us, hl with | [_, _], _ => rfl
  have o_law_common := ok_law_common (P := P) (w := w) (base := base) F_law_common T
  have d_law_common : Cl P w K mg base 1 "_law_common" _ := ⟨_, _, _, .inl o_law_common, PySem.W.mg_of X G a_law_common, k_law_common, y_law_common⟩
  have F_law_subsets := fun_mk (st := s_law_subsets) l_law_subsets c_law_subsets k_law_subsets
  have y_law_subsets := F_law_subsets.binds (ps := ["_law_size"]) fun _ _ _ _ _ _ us hl => match us, hl with | [_], _ => rfl
  have o_law_subsets := ok_law_subsets (P := P) (w := w) (base := base) F_law_subsets T
  have d_law_subsets : Cl P w K mg base 1 "_law_subsets" _ := ⟨_, _, _, .inl o_law_subsets, PySem.W.mg_of X G a_law_subsets, k_law_subsets, y_law_subsets⟩
  have F_law_least := fun_mk (st := s_law_least) l_law_least c_law_least k_law_least
  have y_law_least := F_law_least.binds (ps := ["_law_lots"]) fun _ _ _ _ _ _ us hl => match us, hl with | [_], _ => rfl
  have o_law_least := ok_law_least (P := P) (w := w) (base := base) F_law_least T d_law_inside
  have d_law_least : Cl P w K mg base 2 "_law_least" _ := ⟨_, _, _, .inl o_law_least, PySem.W.mg_of X G a_law_least, k_law_least, y_law_least⟩
  have F_law_holds := fun_mk (st := s_law_holds) l_law_holds c_law_holds k_law_holds
  have y_law_holds := F_law_holds.binds (ps := ["_law_lots", "_law_those"]) fun _ _ _ _ _ _ us hl => match us, hl with | [_, _], _ => rfl
  have o_law_holds := ok_law_holds (P := P) (w := w) (base := base) F_law_holds T d_law_inside
  have d_law_holds : Cl P w K mg base 2 "_law_holds" _ := ⟨_, _, _, .inl o_law_holds, PySem.W.mg_of X G a_law_holds, k_law_holds, y_law_holds⟩
  have F_law_meets := fun_mk (st := s_law_meets) l_law_meets c_law_meets k_law_meets
  have y_law_meets := F_law_meets.binds (ps := ["_law_lots", "_law_those"]) fun _ _ _ _ _ _ us hl => match us, hl with | [_, _], _ => rfl
  have o_law_meets := ok_law_meets (P := P) (w := w) (base := base) F_law_meets T d_law_common
  have d_law_meets : Cl P w K mg base 2 "_law_meets" _ := ⟨_, _, _, .inl o_law_meets, PySem.W.mg_of X G a_law_meets, k_law_meets, y_law_meets⟩
  have F_law_blocker := fun_mk (st := s_law_blocker) l_law_blocker c_law_blocker k_law_blocker
  have y_law_blocker := F_law_blocker.binds (ps := ["_law_size", "_law_lots"]) fun _ _ _ _ _ _ us hl => match us, hl with | [_, _], _ => rfl
  have o_law_blocker := ok_law_blocker (P := P) (w := w) (base := base) F_law_blocker T d_law_subsets d_law_meets
  have d_law_blocker : Cl P w K mg base 3 "_law_blocker" _ := ⟨_, _, _, .inl o_law_blocker, PySem.W.mg_of X G a_law_blocker, k_law_blocker, y_law_blocker⟩
  have F_law_sized := fun_mk (st := s_law_sized) l_law_sized c_law_sized k_law_sized
  have y_law_sized := F_law_sized.binds (ps := ["_law_size", "_law_number"]) fun _ _ _ _ _ _ us hl => match us, hl with | [_, _], _ => rfl
  have o_law_sized := ok_law_sized (P := P) (w := w) (base := base) F_law_sized T d_law_subsets
  have d_law_sized : Cl P w K mg base 2 "_law_sized" _ := ⟨_, _, _, .inl o_law_sized, PySem.W.mg_of X G a_law_sized, k_law_sized, y_law_sized⟩
  have F_law_fan := fun_mk (st := s_law_fan) l_law_fan c_law_fan k_law_fan
  have y_law_fan := F_law_fan.binds (ps := ["_law_size"]) fun _ _ _ _ _ _ us hl => match us, hl with | [_], _ => rfl
  have o_law_fan := ok_law_fan (P := P) (w := w) (base := base) F_law_fan T
  have d_law_fan : Cl P w K mg base 1 "_law_fan" _ := ⟨_, _, _, .inl o_law_fan, PySem.W.mg_of X G a_law_fan, k_law_fan, y_law_fan⟩
  have F_law_ring := fun_mk (st := s_law_ring) l_law_ring c_law_ring k_law_ring
  have y_law_ring := F_law_ring.binds (ps := ["_law_size"]) fun _ _ _ _ _ _ us hl => match us, hl with | [_], _ => rfl
  have o_law_ring := ok_law_ring (P := P) (w := w) (base := base) F_law_ring T
  have d_law_ring : Cl P w K mg base 1 "_law_ring" _ := ⟨_, _, _, .inl o_law_ring, PySem.W.mg_of X G a_law_ring, k_law_ring, y_law_ring⟩
  have F_law_rest := fun_mk (st := s_law_rest) l_law_rest c_law_rest k_law_rest
  have y_law_rest := F_law_rest.binds (ps := ["_law_size", "_law_those"]) fun _ _ _ _ _ _ us hl => match us, hl with | [_, _], _ => rfl
  have o_law_rest := ok_law_rest (P := P) (w := w) (base := base) F_law_rest T
  have d_law_rest : Cl P w K mg base 1 "_law_rest" _ := ⟨_, _, _, .inl o_law_rest, PySem.W.mg_of X G a_law_rest, k_law_rest, y_law_rest⟩
  have F_law_within := fun_mk (st := s_law_within) l_law_within c_law_within k_law_within
  have y_law_within := F_law_within.binds (ps := ["_law_those", "_law_wide"]) fun _ _ _ _ _ _ us hl => match us, hl with | [_, _], _ => rfl
  have o_law_within := ok_law_within (P := P) (w := w) (base := base) F_law_within T d_law_inside
  have d_law_within : Cl P w K mg base 2 "_law_within" _ := ⟨_, _, _, .inl o_law_within, PySem.W.mg_of X G a_law_within, k_law_within, y_law_within⟩
  have F_is_integer := fun_mk (st := s_is_integer) l_is_integer c_is_integer k_is_integer
  have y_is_integer := F_is_integer.binds (ps := ["value", "low"]) fun _ _ _ _ _ _ us hl => match us, hl with | [_, _], _ => rfl
  have o_is_integer := ok_is_integer (P := P) (w := w) (base := base) F_is_integer T
  have d_is_integer : Cl P w K mg base 1 "is_integer" _ := ⟨_, _, _, .inl o_is_integer, PySem.W.mg_of X G a_is_integer, k_is_integer, y_is_integer⟩
  have F_ask_size := fun_mk (st := s_ask_size) l_ask_size c_ask_size k_ask_size
  have y_ask_size := F_ask_size.binds (ps := ["size"]) fun _ _ _ _ _ _ us hl => match us, hl with | [_], _ => rfl
  have o_ask_size := ok_ask_size (P := P) (w := w) (base := base) F_ask_size T d_is_integer
  have d_ask_size : Cl P w K mg base 2 "ask_size" _ := ⟨_, _, _, .inl o_ask_size, PySem.W.mg_of X G a_ask_size, k_ask_size, y_ask_size⟩
  have F_is_thing := fun_mk (st := s_is_thing) l_is_thing c_is_thing k_is_thing
  have y_is_thing := F_is_thing.binds (ps := ["value", "size"]) fun _ _ _ _ _ _ us hl => match us, hl with | [_, _], _ => rfl
  have o_is_thing := ok_is_thing (P := P) (w := w) (base := base) F_is_thing T d_is_integer
  have d_is_thing : Cl P w K mg base 2 "is_thing" _ := ⟨_, _, _, .inl o_is_thing, PySem.W.mg_of X G a_is_thing, k_is_thing, y_is_thing⟩
  have F_set_of := fun_mk (st := s_set_of) l_set_of c_set_of k_set_of
  have y_set_of := F_set_of.binds (ps := ["things", "size"]) fun _ _ _ _ _ _ us hl => match us, hl with | [_, _], _ => rfl
  have o_set_of := ok_set_of (P := P) (w := w) (base := base) F_set_of T bc d_ask_size d_is_thing
  have d_set_of : ClX P w K mg base 3 "set_of" _ := ⟨_, _, _, o_set_of, PySem.W.mg_of X G a_set_of, k_set_of, y_set_of⟩
  have F_ask_things := fun_mk (st := s_ask_things) l_ask_things c_ask_things k_ask_things
  have y_ask_things := F_ask_things.binds (ps := ["things"]) fun _ _ _ _ _ _ us hl => match us, hl with | [_], _ => rfl
  have o_ask_things := ok_ask_things (P := P) (w := w) (base := base) F_ask_things T hM d_is_integer
  have d_ask_things : Cl P w K mg base 2 "ask_things" _ := ⟨_, _, _, .inl o_ask_things, PySem.W.mg_of X G a_ask_things, k_ask_things, y_ask_things⟩
  have F_checked_lot := fun_mk (st := s_checked_lot) l_checked_lot c_checked_lot k_checked_lot
  have y_checked_lot := F_checked_lot.binds (ps := ["lot", "place", "things"]) fun _ _ _ _ _ _ us hl => match us, hl with | [_, _, _], _ => rfl
  have o_checked_lot := ok_checked_lot (P := P) (w := w) (base := base) F_checked_lot T (d_set_of).cl
  have d_checked_lot : Cl P w K mg base 4 "checked_lot" _ := ⟨_, _, _, .inl o_checked_lot, PySem.W.mg_of X G a_checked_lot, k_checked_lot, y_checked_lot⟩
  have F_Minit := fun_mk (st := s_Family_init) l_Minit c_Minit k_Minit
  have y_Minit := F_Minit.binds (ps := ["self", "things", "lots"]) fun _ _ _ _ _ _ us hl => match us, hl with | [_, _, _], _ => rfl
  have o_Minit := ok_init (P := P) (w := w) (base := base) F_Minit T fc d_ask_things d_checked_lot d_least_lots
  have d_Minit : ClI P w K mg base 5 C "Family" _ := ⟨_, _, _, o_Minit, ⟨mk, a_Minit, i_Minit, kc⟩, fc.m, y_Minit⟩
  have F_Meq := fun_mk (st := s_Family_eq) l_Meq c_Meq k_Meq
  have y_Meq := F_Meq.binds (ps := ["self", "other"]) fun _ _ _ _ _ _ us hl => match us, hl with | [_, _], _ => rfl
  have o_Meq := ok_eq (P := P) (w := w) (base := base) F_Meq T fc
  have d_Meq : ClO P w K mg base 1 C "__eq__" _ := ⟨_, _, _, o_Meq, a_Meq, i_Meq, y_Meq⟩
  have F_Minvert := fun_mk (st := s_Family_invert) l_Minvert c_Minvert k_Minvert
  have y_Minvert := F_Minvert.binds (ps := ["self"]) fun _ _ _ _ _ _ us hl => match us, hl with | [_], _ => rfl
  have o_Minvert := ok_invert (P := P) (w := w) (base := base) F_Minvert T fc d_Minit d_blocker_lots
  have d_Minvert : ClO P w K mg base 7 C "__invert__" _ := ⟨_, _, _, o_Minvert, a_Minvert, i_Minvert, y_Minvert⟩
  have F_Mholds := fun_mk (st := s_Family_holds) l_Mholds c_Mholds k_Mholds
  have y_Mholds := F_Mholds.binds (ps := ["self", "things"]) fun _ _ _ _ _ _ us hl => match us, hl with | [_, _], _ => rfl
  have o_Mholds := ok_holds (P := P) (w := w) (base := base) F_Mholds T fc d_mask_of d_set_of
  have d_Mholds : ClM P w K mg base 4 C "holds" _ := ⟨_, _, _, o_Mholds, ⟨a_Mholds, i_Mholds, k_Mholds⟩, y_Mholds⟩
  have F_blocker := fun_mk (st := s_blocker) l_blocker c_blocker k_blocker
  have y_blocker := F_blocker.binds (ps := ["family"]) fun _ _ _ _ _ _ us hl => match us, hl with | [_], _ => rfl
  have o_blocker := ok_blocker (P := P) (w := w) (base := base) F_blocker T d_Minvert
  have d_blocker : Cl P w K mg base 8 "blocker" _ := ⟨_, _, _, .inl o_blocker, PySem.W.mg_of X G a_blocker, k_blocker, y_blocker⟩
  have F_side_of := fun_mk (st := s_side_of) l_side_of c_side_of k_side_of
  have y_side_of := F_side_of.binds (ps := ["family", "things"]) fun _ _ _ _ _ _ us hl => match us, hl with | [_, _], _ => rfl
  have o_side_of := ok_side_of (P := P) (w := w) (base := base) F_side_of T fc d_Mholds
  have d_side_of : ClX P w K mg base 5 "side_of" _ := ⟨_, _, _, o_side_of, PySem.W.mg_of X G a_side_of, k_side_of, y_side_of⟩
  have F_law_pick := fun_mk (st := s_law_pick) l_law_pick c_law_pick k_law_pick
  have y_law_pick := F_law_pick.binds (ps := ["_law_draws_here", "_law_bound"]) fun _ _ _ _ _ _ us hl => match us, hl with | [_, _], _ => rfl
  have o_law_pick := ok_law_pick (P := P) (w := w) (base := base) F_law_pick T
  have d_law_pick : Cl P w K mg base 1 "_law_pick" _ := ⟨_, _, _, .inl o_law_pick, PySem.W.mg_of X G a_law_pick, k_law_pick, y_law_pick⟩
  have F_law_chosen := fun_mk (st := s_law_chosen) l_law_chosen c_law_chosen k_law_chosen
  have y_law_chosen := F_law_chosen.binds (ps := ["_law_draws_here", "_law_pool", "_law_least_here"]) fun _ _ _ _ _ _ us hl => match us, hl with | [_, _, _], _ => rfl
  have o_law_chosen := ok_law_chosen (P := P) (w := w) (base := base) F_law_chosen T d_law_pick
  have d_law_chosen : Cl P w K mg base 2 "_law_chosen" _ := ⟨_, _, _, .inl o_law_chosen, PySem.W.mg_of X G a_law_chosen, k_law_chosen, y_law_chosen⟩
  have F_law_mixed_lots := fun_mk (st := s_law_mixed_lots) l_law_mixed_lots c_law_mixed_lots k_law_mixed_lots
  have y_law_mixed_lots := F_law_mixed_lots.binds (ps := ["_law_draws_here", "_law_size"]) fun _ _ _ _ _ _ us hl => match us, hl with | [_, _], _ => rfl
  have o_law_mixed_lots := ok_law_mixed (P := P) (w := w) (base := base) F_law_mixed_lots T d_law_pick d_law_least
  have d_law_mixed_lots : Cl P w K mg base 3 "_law_mixed_lots" _ := ⟨_, _, _, .inl o_law_mixed_lots, PySem.W.mg_of X G a_law_mixed_lots, k_law_mixed_lots, y_law_mixed_lots⟩
  have F_law_moved := fun_mk (st := s_law_moved) l_law_moved c_law_moved k_law_moved
  have y_law_moved := F_law_moved.binds (ps := ["_law_draws_here", "_law_size", "_law_lots"]) fun _ _ _ _ _ _ us hl => match us, hl with | [_, _, _], _ => rfl
  have o_law_moved := ok_law_moved (P := P) (w := w) (base := base) F_law_moved T d_law_pick
  have d_law_moved : Cl P w K mg base 2 "_law_moved" _ := ⟨_, _, _, .inl o_law_moved, PySem.W.mg_of X G a_law_moved, k_law_moved, y_law_moved⟩
  have F_law_small := fun_mk (st := s_law_small) l_law_small c_law_small k_law_small
  have y_law_small := F_law_small.binds (ps := ["_law_draws_here"]) fun _ _ _ _ _ _ us hl => match us, hl with | [_], _ => rfl
  have o_law_small := ok_law_small (P := P) (w := w) (base := base) F_law_small T d_law_pick d_law_sized d_law_mixed_lots d_law_fan d_law_chosen
  have d_law_small : Cl P w K mg base 4 "_law_small" _ := ⟨_, _, _, .inl o_law_small, PySem.W.mg_of X G a_law_small, k_law_small, y_law_small⟩
  have F_law_middle := fun_mk (st := s_law_middle) l_law_middle c_law_middle k_law_middle
  have y_law_middle := F_law_middle.binds (ps := ["_law_draws_here"]) fun _ _ _ _ _ _ us hl => match us, hl with | [_], _ => rfl
  have o_law_middle := ok_law_middle (P := P) (w := w) (base := base) F_law_middle T d_law_pick d_law_sized d_law_mixed_lots d_law_fan d_law_ring d_law_chosen d_law_least
  have d_law_middle : Cl P w K mg base 4 "_law_middle" _ := ⟨_, _, _, .inl o_law_middle, PySem.W.mg_of X G a_law_middle, k_law_middle, y_law_middle⟩
  have F_law_any := fun_mk (st := s_law_any) l_law_any c_law_any k_law_any
  have y_law_any := F_law_any.binds (ps := ["_law_draws_here"]) fun _ _ _ _ _ _ us hl => match us, hl with | [_], _ => rfl
  have o_law_any := ok_law_any (P := P) (w := w) (base := base) F_law_any T d_law_pick d_law_small d_law_middle d_law_blocker d_law_moved
  have d_law_any : Cl P w K mg base 5 "_law_any" _ := ⟨_, _, _, .inl o_law_any, PySem.W.mg_of X G a_law_any, k_law_any, y_law_any⟩
  have F_law_draws := fun_mk (st := s_law_draws) l_law_draws c_law_draws k_law_draws
  have y_law_draws := F_law_draws.binds (ps := ["_law_script"]) fun _ _ _ _ _ _ us hl => match us, hl with | [_], _ => rfl
  have o_law_draws := ok_law_draws (P := P) (w := w) (base := base) F_law_draws T
  have d_law_draws : Cl P w K mg base 1 "_law_draws" _ := ⟨_, _, _, .inl o_law_draws, PySem.W.mg_of X G a_law_draws, k_law_draws, y_law_draws⟩
  have F_law_int := fun_mk (st := s_law_int) l_law_int c_law_int k_law_int
  have y_law_int := F_law_int.binds (ps := ["_law_value"]) fun _ _ _ _ _ _ us hl => match us, hl with | [_], _ => rfl
  have o_law_int := ok_law_int (P := P) (w := w) (base := base) F_law_int T
  have d_law_int : Cl P w K mg base 1 "_law_int" _ := ⟨_, _, _, .inl o_law_int, PySem.W.mg_of X G a_law_int, k_law_int, y_law_int⟩
  have F_law_one_of_two := fun_mk (st := s_law_one_of_two) l_law_one_of_two c_law_one_of_two k_law_one_of_two
  have y_law_one_of_two := F_law_one_of_two.binds (ps := ["_law_fam", "_law_cross", "_law_size", "_law_lots", "_law_those"]) fun _ _ _ _ _ _ us hl => match us, hl with | [_, _, _, _, _], _ => rfl
  have o_law_one_of_two := ok_law_one_of_two (P := P) (w := w) (base := base) F_law_one_of_two T fc d_law_rest d_law_holds d_Mholds (d_side_of).cl
  have d_law_one_of_two : Cl P w K mg base 6 "_law_one_of_two" _ := ⟨_, _, _, .inl o_law_one_of_two, PySem.W.mg_of X G a_law_one_of_two, k_law_one_of_two, y_law_one_of_two⟩
  have F_law_set_words := fun_mk (st := s_law_set_words) l_law_set_words c_law_set_words k_law_set_words
  have y_law_set_words := F_law_set_words.binds (ps := ["_law_fam", "_law_things"]) fun _ _ _ _ _ _ us hl => match us, hl with | [_, _], _ => rfl
  have o_law_set_words := ok_law_set_words (P := P) (w := w) (base := base) F_law_set_words T fc bc xf np d_Mholds d_side_of
  have d_law_set_words : Cl P w K mg base 6 "_law_set_words" _ := ⟨_, _, _, .inl o_law_set_words, PySem.W.mg_of X G a_law_set_words, k_law_set_words, y_law_set_words⟩
  have F_quiet_sets := fun_mk (st := s_quiet_sets) l_quiet_sets c_quiet_sets k_quiet_sets
  have y_quiet_sets := F_quiet_sets.binds (ps := ["family"]) fun _ _ _ _ _ _ us hl => match us, hl with | [_], _ => rfl
  have o_quiet_sets := ok_quiet_sets (P := P) (w := w) (base := base) F_quiet_sets T fc d_blocker_lots
  have d_quiet_sets : ClG P w K mg base 4 "quiet_sets" _ := ⟨_, _, _, o_quiet_sets, PySem.W.mg_of X G a_quiet_sets, k_quiet_sets, y_quiet_sets⟩
  have F_law_quiet := fun_mk (st := s_law_quiet) l_law_quiet c_law_quiet k_law_quiet
  have y_law_quiet := F_law_quiet.binds (ps := ["_law_fam", "_law_size", "_law_lots"]) fun _ _ _ _ _ _ us hl => match us, hl with | [_, _, _], _ => rfl
  have o_law_quiet := ok_law_quiet (P := P) (w := w) (base := base) F_law_quiet T d_quiet_sets d_law_int d_law_blocker d_law_rest d_law_subsets d_law_within d_law_holds
  have d_law_quiet : Cl P w K mg base 8 "_law_quiet" _ := ⟨_, _, _, .inl o_law_quiet, PySem.W.mg_of X G a_law_quiet, k_law_quiet, y_law_quiet⟩
  have F_law := fun_mk (st := s_law) l_law c_law k_law
  exact ok_law F_law T fc d_law_draws d_law_any d_Minit d_Minvert d_Meq d_blocker d_law_subsets d_law_one_of_two d_law_quiet d_law_blocker d_law_pick d_law_set_words d_law_ring d_law_fan hnf d_quiet_sets
theorem walk {l : PySem.W.OpenLaw} {q : Program} {loose : List Str} {XP : (Str → Option Value) → Heap → Prop} {YP : World → Heap → Prop} {d : DefRec} {K : Params → PySem.W.Frag} (hn : l.most = some 63) (hdf : d.params.defaults = [])
    (hY : ∀ (w : World) (h : Heap), YP w h → (K w.params).In h)
    (F : ∀ (w : World) (mg : Str → Option Value) (fa : Addr) (h : Heap), (K w.params).In h → h.Ns mainGlobals mg → mg d.name = some (.ref fa) →
      ∃ fd : FuncData, (∀ (s : Shared) (u : Value), BindsTo s fd ⟨[u], []⟩ [("_law_script", u)]) ∧ ∀ base : Heap, (K w.params).In base → base.Ns mainGlobals mg → FnOk l.prog w (K w.params) mg base CX0 9 fa fd ["_law_script"] (Pure (K w.params) p_law)) :
    PySem.W.WalkO q loose XP YP l.row.toRowW d [] (fun f vs => PySem.call f vs) :=
  L2.walk_of (n := 63) (k := 9) (x := "_law_script") (CX := fun _ => CX0) (sp := fun w => Pure (K w.params) p_law) hn (by decide) hdf ⟨rfl, by decide, by decide⟩ hY F (fun _ _ a ns hl _ hS => ⟨[.lst (ns.map D.int)], .bl true, .one (.lst hS (isAll_ints ns)), ⟨ns, hl, rfl, rfl⟩, fun v H2 _ h2 => by cases h2; rfl⟩) fun _ _ _ _ _ z => z
end Y
open PySem PySem.W PyProof.Rows
set_option Elab.async false
set_option maxRecDepth 100000
set_option maxHeartbeats 0
open_top hd for PySem.Challenge.rw_shortbynarrow_k01_a_set_or_its_rest
set_option Elab.async false
set_option autoImplicit false
open PySem PySem.W PyProof.Rows
set_option maxRecDepth 100000
set_option maxHeartbeats 0
theorem PySem.Challenge.cw_shortbynarrow_k01_a_set_or_its_rest_holds : PySem.Challenge.rw_shortbynarrow_k01_a_set_or_its_rest.Holds := by
  refine hd ?_
  k_fill
  refine Y.walk (l := PySem.Challenge.rw_shortbynarrow_k01_a_set_or_its_rest) rfl rfl (fun w h Y => PySem.W.kIn_of Y) ?F
  case F =>
    intro w mg fa h KX G hmg
    refine' Y.all_mk KX G hmg ?aC ?aB ?aM ?a_mask_of ?l_mask_of ?c_mask_of ?k_mask_of ?a_things_of ?l_things_of ?c_things_of ?k_things_of ?a_least_masks ?l_least_masks ?c_least_masks ?k_least_masks ?a_lots_of_masks ?l_lots_of_masks ?c_lots_of_masks ?k_lots_of_masks ?a_least_lots ?l_least_lots ?c_least_lots ?k_least_lots ?a_blocker_lots ?l_blocker_lots ?c_blocker_lots ?k_blocker_lots ?a_law_inside ?l_law_inside ?c_law_inside ?k_law_inside ?a_law_common ?l_law_common ?c_law_common ?k_law_common ?a_law_subsets ?l_law_subsets ?c_law_subsets ?k_law_subsets ?a_law_least ?l_law_least ?c_law_least ?k_law_least ?a_law_holds ?l_law_holds ?c_law_holds ?k_law_holds ?a_law_meets ?l_law_meets ?c_law_meets ?k_law_meets ?a_law_blocker ?l_law_blocker ?c_law_blocker ?k_law_blocker ?a_law_sized ?l_law_sized ?c_law_sized ?k_law_sized ?a_law_fan ?l_law_fan ?c_law_fan ?k_law_fan ?a_law_ring ?l_law_ring ?c_law_ring ?k_law_ring ?a_law_rest ?l_law_rest ?c_law_rest ?k_law_rest ?a_law_within ?l_law_within ?c_law_within ?k_law_within ?a_is_integer ?l_is_integer ?c_is_integer ?k_is_integer ?a_ask_size ?l_ask_size ?c_ask_size ?k_ask_size ?a_is_thing ?l_is_thing ?c_is_thing ?k_is_thing ?a_set_of ?l_set_of ?c_set_of ?k_set_of ?a_ask_things ?l_ask_things ?c_ask_things ?k_ask_things ?a_checked_lot ?l_checked_lot ?c_checked_lot ?k_checked_lot ?a_Minit ?i_Minit ?l_Minit ?c_Minit ?k_Minit ?a_Meq ?i_Meq ?l_Meq ?c_Meq ?k_Meq ?a_Minvert ?i_Minvert ?l_Minvert ?c_Minvert ?k_Minvert ?a_Mholds ?i_Mholds ?l_Mholds ?c_Mholds ?k_Mholds ?a_blocker ?l_blocker ?c_blocker ?k_blocker ?a_side_of ?l_side_of ?c_side_of ?k_side_of ?a_law_pick ?l_law_pick ?c_law_pick ?k_law_pick ?a_law_chosen ?l_law_chosen ?c_law_chosen ?k_law_chosen ?a_law_mixed_lots ?l_law_mixed_lots ?c_law_mixed_lots ?k_law_mixed_lots ?a_law_moved ?l_law_moved ?c_law_moved ?k_law_moved ?a_law_small ?l_law_small ?c_law_small ?k_law_small ?a_law_middle ?l_law_middle ?c_law_middle ?k_law_middle ?a_law_any ?l_law_any ?c_law_any ?k_law_any ?a_law_draws ?l_law_draws ?c_law_draws ?k_law_draws ?a_law_int ?l_law_int ?c_law_int ?k_law_int ?a_law_one_of_two ?l_law_one_of_two ?c_law_one_of_two ?k_law_one_of_two ?a_law_set_words ?l_law_set_words ?c_law_set_words ?k_law_set_words ?a_quiet_sets ?l_quiet_sets ?c_quiet_sets ?k_quiet_sets ?a_law_quiet ?l_law_quiet ?c_law_quiet ?k_law_quiet ?a_law ?l_law ?c_law ?k_law ?pg ?hd ?po ?sa ?mk ?kc ?nT ?nL ?nf ?oc1 ?oc2 ?oc3 ?oc4 ?b1 ?b2 ?b3 ?b4 ?b5 ?b6 ?b7 ?b8 ?b9 ?b10 ?b11 ?b12 ?b13 ?bC ?b14 ?b15 ?b16 ?b17 ?b18 ?b19 ?b20 ?b21 ?b22 ?b23 ?b24 ?b25 ?b26 ?b27 ?b28 ?z_len ?z_sum ?z_all ?z_any ?z_sorted ?z_tuple ?z_list ?z_int ?z_bool ?z_range ?z_isinstance ?z_min ?z_max
    (case aC => k_is)
    (case aB => k_is)
    (case aM => k_is)
    (case a_mask_of => k_is)
    (case l_mask_of => k_is)
    (case c_mask_of => k_is)
    (case k_mask_of => k_is)
    (case a_things_of => k_is)
    (case l_things_of => k_is)
    (case c_things_of => k_is)
    (case k_things_of => k_is)
    (case a_least_masks => k_is)
    (case l_least_masks => k_is)
    (case c_least_masks => k_is)
    (case k_least_masks => k_is)
    (case a_lots_of_masks => k_is)
    (case l_lots_of_masks => k_is)
    (case c_lots_of_masks => k_is)
    (case k_lots_of_masks => k_is)
    (case a_least_lots => k_is)
    (case l_least_lots => k_is)
    (case c_least_lots => k_is)
    (case k_least_lots => k_is)
    (case a_blocker_lots => k_is)
    (case l_blocker_lots => k_is)
    (case c_blocker_lots => k_is)
    (case k_blocker_lots => k_is)
    (case a_law_inside => k_is)
    (case l_law_inside => k_is)
    (case c_law_inside => k_is)
    (case k_law_inside => k_is)
    (case a_law_common => k_is)
    (case l_law_common => k_is)
    (case c_law_common => k_is)
    (case k_law_common => k_is)
    (case a_law_subsets => k_is)
    (case l_law_subsets => k_is)
    (case c_law_subsets => k_is)
    (case k_law_subsets => k_is)
    (case a_law_least => k_is)
    (case l_law_least => k_is)
    (case c_law_least => k_is)
    (case k_law_least => k_is)
    (case a_law_holds => k_is)
    (case l_law_holds => k_is)
    (case c_law_holds => k_is)
    (case k_law_holds => k_is)
    (case a_law_meets => k_is)
    (case l_law_meets => k_is)
    (case c_law_meets => k_is)
    (case k_law_meets => k_is)
    (case a_law_blocker => k_is)
    (case l_law_blocker => k_is)
    (case c_law_blocker => k_is)
    (case k_law_blocker => k_is)
    (case a_law_sized => k_is)
    (case l_law_sized => k_is)
    (case c_law_sized => k_is)
    (case k_law_sized => k_is)
    (case a_law_fan => k_is)
    (case l_law_fan => k_is)
    (case c_law_fan => k_is)
    (case k_law_fan => k_is)
    (case a_law_ring => k_is)
    (case l_law_ring => k_is)
    (case c_law_ring => k_is)
    (case k_law_ring => k_is)
    (case a_law_rest => k_is)
    (case l_law_rest => k_is)
    (case c_law_rest => k_is)
    (case k_law_rest => k_is)
    (case a_law_within => k_is)
    (case l_law_within => k_is)
    (case c_law_within => k_is)
    (case k_law_within => k_is)
    (case a_is_integer => k_is)
    (case l_is_integer => k_is)
    (case c_is_integer => k_is)
    (case k_is_integer => k_is)
    (case a_ask_size => k_is)
    (case l_ask_size => k_is)
    (case c_ask_size => k_is)
    (case k_ask_size => k_is)
    (case a_is_thing => k_is)
    (case l_is_thing => k_is)
    (case c_is_thing => k_is)
    (case k_is_thing => k_is)
    (case a_set_of => k_is)
    (case l_set_of => k_is)
    (case c_set_of => k_is)
    (case k_set_of => k_is)
    (case a_ask_things => k_is)
    (case l_ask_things => k_is)
    (case c_ask_things => k_is)
    (case k_ask_things => k_is)
    (case a_checked_lot => k_is)
    (case l_checked_lot => k_is)
    (case c_checked_lot => k_is)
    (case k_checked_lot => k_is)
    (case a_Minit => k_is)
    (case i_Minit => k_is)
    (case l_Minit => k_is)
    (case c_Minit => k_is)
    (case k_Minit => k_is)
    (case a_Meq => k_is)
    (case i_Meq => k_is)
    (case l_Meq => k_is)
    (case c_Meq => k_is)
    (case k_Meq => k_is)
    (case a_Minvert => k_is)
    (case i_Minvert => k_is)
    (case l_Minvert => k_is)
    (case c_Minvert => k_is)
    (case k_Minvert => k_is)
    (case a_Mholds => k_is)
    (case i_Mholds => k_is)
    (case l_Mholds => k_is)
    (case c_Mholds => k_is)
    (case k_Mholds => k_is)
    (case a_blocker => k_is)
    (case l_blocker => k_is)
    (case c_blocker => k_is)
    (case k_blocker => k_is)
    (case a_side_of => k_is)
    (case l_side_of => k_is)
    (case c_side_of => k_is)
    (case k_side_of => k_is)
    (case a_law_pick => k_is)
    (case l_law_pick => k_is)
    (case c_law_pick => k_is)
    (case k_law_pick => k_is)
    (case a_law_chosen => k_is)
    (case l_law_chosen => k_is)
    (case c_law_chosen => k_is)
    (case k_law_chosen => k_is)
    (case a_law_mixed_lots => k_is)
    (case l_law_mixed_lots => k_is)
    (case c_law_mixed_lots => k_is)
    (case k_law_mixed_lots => k_is)
    (case a_law_moved => k_is)
    (case l_law_moved => k_is)
    (case c_law_moved => k_is)
    (case k_law_moved => k_is)
    (case a_law_small => k_is)
    (case l_law_small => k_is)
    (case c_law_small => k_is)
    (case k_law_small => k_is)
    (case a_law_middle => k_is)
    (case l_law_middle => k_is)
    (case c_law_middle => k_is)
    (case k_law_middle => k_is)
    (case a_law_any => k_is)
    (case l_law_any => k_is)
    (case c_law_any => k_is)
    (case k_law_any => k_is)
    (case a_law_draws => k_is)
    (case l_law_draws => k_is)
    (case c_law_draws => k_is)
    (case k_law_draws => k_is)
    (case a_law_int => k_is)
    (case l_law_int => k_is)
    (case c_law_int => k_is)
    (case k_law_int => k_is)
    (case a_law_one_of_two => k_is)
    (case l_law_one_of_two => k_is)
    (case c_law_one_of_two => k_is)
    (case k_law_one_of_two => k_is)
    (case a_law_set_words => k_is)
    (case l_law_set_words => k_is)
    (case c_law_set_words => k_is)
    (case k_law_set_words => k_is)
    (case a_quiet_sets => k_is)
    (case l_quiet_sets => k_is)
    (case c_quiet_sets => k_is)
    (case k_quiet_sets => k_is)
    (case a_law_quiet => k_is)
    (case l_law_quiet => k_is)
    (case c_law_quiet => k_is)
    (case k_law_quiet => k_is)
    (case a_law => k_is)
    (case l_law => k_is)
    (case c_law => k_is)
    (case k_law => k_is)
    (case pg => k_is)
    (case hd => k_is)
    (case po => k_is)
    (case sa => k_is)
    (case mk => k_is)
    (case kc => k_is)
    (case nT => k_is)
    (case nL => k_is)
    (case nf => k_is)
    (case oc1 => k_is)
    (case oc2 => k_is)
    (case oc3 => k_is)
    (case oc4 => k_is)
    (case b1 => k_is)
    (case b2 => kx_is)
    (case b3 => kx_is)
    (case b4 => k_is)
    (case b5 => k_is)
    (case b6 => k_is)
    (case b7 => (intro u v; rfl))
    (case b8 => rfl)
    (case b9 => rfl)
    (case b10 => k_is)
    (case b11 => rfl)
    (case b12 => (first | rfl | decide +kernel))
    (case b13 => k_is)
    (case bC => (intro L; exact ⟨_, rfl⟩))
    (case b14 => ks_is)
    (case b15 => k_is)
    (case b16 => k_is)
    (case b17 => k_is)
    (case b18 => k_is)
    (case b19 => k_is)
    (case b20 => k_is)
    (case b21 => k_is)
    (case b22 => k_is)
    (case b23 => k_is)
    (case b24 => (first | rfl | decide +kernel))
    (case b25 => k_is)
    (case b26 => k_is)
    (case b27 => k_is)
    (case b28 => k_is)
    (case z_len => k_is)
    (case z_sum => k_is)
    (case z_all => k_is)
    (case z_any => k_is)
    (case z_sorted => k_is)
    (case z_tuple => k_is)
    (case z_list => k_is)
    (case z_int => k_is)
    (case z_bool => k_is)
    (case z_range => k_is)
    (case z_isinstance => k_is)
    (case z_min => k_is)
    (case z_max => k_is)
