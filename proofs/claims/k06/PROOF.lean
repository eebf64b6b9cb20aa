import PyProof.Rows.All
import Wide.All
import OpenK.AllK
import Wide.FinOn
import HandS.ForMost
import HandS.ForExc
import HandS.Deep
import HandS.WideBits
import HandS.SortInts
import HandS.Wide
import KE.SortData
import HandS.TupAny
import HandS.IsInst
import HandS.Codes
import HandS.OwnEq
import KE.OsArith
import HandS.Conv
import HandS.FStr
import HandS.ExcInit
import HandS.ExcField
import KE.KExcLine
import HandS.SlotsOwn
import HandS.TryOnly
import HandS.WordsExc
import HandS.Steps
import HandS.TryMany
import HandS.Star
import HandS.SetBool
import HandS.Strs
import HandS.Style
import HandS.ClsMeth
import HandS.IterVal
import KE.KOpsOwn
import HandS.Text
import PySem.Challenge.RW_shortbynarrow_k06_families_put_in
set_option autoImplicit false
/-! Plain mathematics: lists in a strict order, lots, transversals. -/
namespace KM

/-- two lists in the same strict order with the same members are one -/
theorem ext_of_pairwise {α : Type} {r : α → α → Prop} (irr : ∀ a, ¬ r a a) (asym : ∀ a b, r a b → ¬ r b a) :
    ∀ {l m : List α}, l.Pairwise r → m.Pairwise r → (∀ x, x ∈ l ↔ x ∈ m) → l = m
  | [], [], _, _, _ => rfl
  | [], b :: m, _, _, h => absurd ((h b).mpr List.mem_cons_self) (by simp)
  | a :: l, [], _, _, h => absurd ((h a).mp List.mem_cons_self) (by simp)
  | a :: l, b :: m, hl, hm, h => by
    have hl' := List.pairwise_cons.mp hl
    have hm' := List.pairwise_cons.mp hm
    have e : a = b := by
      rcases List.mem_cons.mp ((h a).mp List.mem_cons_self) with e | ha
      · exact e
      · rcases List.mem_cons.mp ((h b).mpr List.mem_cons_self) with e | hb
        · exact e.symm
        · exact absurd (hm'.1 a ha) (asym _ _ (hl'.1 b hb))
    subst e
    congr 1
    refine ext_of_pairwise irr asym hl'.2 hm'.2 fun x => ⟨fun hx => ?_, fun hx => ?_⟩
    · rcases List.mem_cons.mp ((h x).mp (List.mem_cons_of_mem _ hx)) with e | hx'
      · subst e; exact absurd (hl'.1 _ hx) (irr _)
      · exact hx'
    · rcases List.mem_cons.mp ((h x).mpr (List.mem_cons_of_mem _ hx)) with e | hx'
      · subst e; exact absurd (hm'.1 _ hx) (irr _)
      · exact hx'

abbrev T := List Nat
abbrev Asc (l : T) : Prop := l.Pairwise (· < ·)
theorem asc_ext {l m : T} (a : Asc l) (b : Asc m) (h : ∀ x, x ∈ l ↔ x ∈ m) : l = m :=
  ext_of_pairwise (fun a => Nat.lt_irrefl a) (fun _ _ h => Nat.not_lt_of_gt h) a b h

/-! ### the order of tuples -/
theorem leT_total (a b : T) : (decide (a ≤ b) || decide (b ≤ a)) = true := by
  rcases List.le_total a b with h | h <;> simp [h]
theorem leT_trans (a b c : T) : decide (a ≤ b) = true → decide (b ≤ c) = true → decide (a ≤ c) = true := by
  intro h1 h2
  exact decide_eq_true (List.le_trans (of_decide_eq_true h1) (of_decide_eq_true h2))
/-- sorted(..) -/
def srt (l : List T) : List T := l.mergeSort (fun a b => decide (a ≤ b))
theorem srt_perm (l : List T) : (srt l).Perm l := List.mergeSort_perm _ _
theorem srt_mem {l : List T} {x : T} : x ∈ srt l ↔ x ∈ l := (srt_perm l).mem_iff
theorem srt_len (l : List T) : (srt l).length = l.length := (srt_perm l).length_eq
theorem srt_le (l : List T) : (srt l).Pairwise (· ≤ ·) := by
  have h := List.pairwise_mergeSort (le := fun a b : T => decide (a ≤ b)) leT_trans leT_total l
  exact h.imp fun h => of_decide_eq_true h
theorem srt_lt {l : List T} (hn : l.Nodup) : (srt l).Pairwise (· < ·) := by
  have h1 := srt_le l
  have h2 : (srt l).Nodup := (srt_perm l).nodup_iff.mpr hn
  refine (List.Pairwise.and h1 h2).imp ?_
  rintro a b ⟨h, hne⟩
  rcases List.le_iff_lt_or_eq.mp h with h | h
  · exact h
  · exact absurd h hne
theorem ltT_ext {l m : List T} (a : l.Pairwise (· < ·)) (b : m.Pairwise (· < ·)) (h : ∀ x, x ∈ l ↔ x ∈ m) : l = m :=
  ext_of_pairwise (fun a => List.lt_irrefl a) (fun _ _ h => List.lt_asymm h) a b h
theorem srt_id {l : List T} (h : l.Pairwise (· < ·)) : srt l = l := by
  have hn : l.Nodup := h.imp fun {a b} hab e => by subst e; exact List.lt_irrefl _ hab
  exact ltT_ext (srt_lt hn) h fun x => srt_mem
theorem nodup_of_lt {l : List T} (h : l.Pairwise (· < ·)) : l.Nodup := h.imp fun {a b} hab e => by subst e; exact List.lt_irrefl _ hab
/-- two lists without doubles, with the same members, are sorted alike -/
theorem srt_ext {l m : List T} (a : l.Nodup) (b : m.Nodup) (h : ∀ x, x ∈ l ↔ x ∈ m) : srt l = srt m :=
  ltT_ext (srt_lt a) (srt_lt b) fun x => by rw [srt_mem, srt_mem, h]
end KM
set_option autoImplicit false
/-! Sets as bits: what masks say, the least ones, and the sets that meet all lots. -/
namespace KM

theorem and_zero_iff {a b : Nat} : a &&& b = 0 ↔ ∀ i, a.testBit i = true → b.testBit i = false := by
  constructor
  · intro h i hi
    have := congrArg (fun n => n.testBit i) h
    simpa [hi] using this
  · intro h
    apply Nat.eq_of_testBit_eq
    intro i
    cases ha : a.testBit i
    · simp [ha]
    · simp [ha, h i ha]
theorem and_left_iff {a b : Nat} : a &&& b = a ↔ ∀ i, a.testBit i = true → b.testBit i = true := by
  constructor
  · intro h i hi
    have := congrArg (fun n => n.testBit i) h
    simpa [hi] using this
  · intro h
    apply Nat.eq_of_testBit_eq
    intro i
    cases ha : a.testBit i
    · simp [ha]
    · simp [ha, h i ha]
/-- a within b -/
abbrev Sb (a b : Nat) : Prop := ∀ i, a.testBit i = true → b.testBit i = true
theorem Sb.refl (a : Nat) : Sb a a := fun _ h => h
theorem Sb.trans {a b c : Nat} (h : Sb a b) (k : Sb b c) : Sb a c := fun i x => k i (h i x)
theorem Sb.antisymm {a b : Nat} (h : Sb a b) (k : Sb b a) : a = b := by
  apply Nat.eq_of_testBit_eq
  intro i
  have h1 := h i
  have h2 := k i
  cases ha : a.testBit i <;> cases hb : b.testBit i <;> simp_all
theorem Sb.le {a b : Nat} (h : Sb a b) : a ≤ b := by
  have e : a &&& b = a := and_left_iff.mpr h
  rw [← e]
  exact Nat.and_le_right

def maskOf (l : T) : Nat := (l.map (fun e => 2 ^ e)).sum
theorem mask_or : ∀ {l : T}, Asc l → ∀ k, (∀ x ∈ l, k ≤ x) → (∀ i, (maskOf l).testBit i = decide (i ∈ l)) ∧ 2 ^ k ∣ maskOf l
  | [], _, k, _ => ⟨fun i => by simp [maskOf], by simp [maskOf]⟩
  | a :: l, h, k, hk => by
    have h' := List.pairwise_cons.mp h
    obtain ⟨ih, dv⟩ := mask_or h'.2 (a + 1) fun x hx => h'.1 x hx
    obtain ⟨q, hq⟩ := dv
    have e1 : maskOf (a :: l) = 2 ^ a + maskOf l := by simp [maskOf]
    have e2 : maskOf (a :: l) = maskOf l ||| 2 ^ a := by
      rw [e1, hq, Nat.add_comm, Nat.two_pow_add_eq_or_of_lt (Nat.pow_lt_pow_right (by omega) (by omega))]
    refine ⟨fun i => ?_, ?_⟩
    · rw [e2, Nat.testBit_or, ih, Nat.testBit_two_pow]
      by_cases hi : i = a
      · subst hi; simp
      · have : a ≠ i := fun z => hi z.symm
        simp [hi, this]
    · rw [e1, hq]
      have hka : k ≤ a := hk a List.mem_cons_self
      refine Nat.dvd_add (Nat.pow_dvd_pow 2 hka) (Nat.dvd_trans (Nat.pow_dvd_pow 2 (by omega : k ≤ a + 1)) (Nat.dvd_mul_right _ _))
theorem mask_bit {l : T} (h : Asc l) (i : Nat) : (maskOf l).testBit i = decide (i ∈ l) := (mask_or h 0 fun _ _ => Nat.zero_le _).1 i
theorem mask_bit_iff {l : T} (h : Asc l) {i : Nat} : (maskOf l).testBit i = true ↔ i ∈ l := by rw [mask_bit h]; simp

def bitLen (m : Nat) : Nat := if m = 0 then 0 else m.log2 + 1
def thingsOf (m : Nat) : T := (List.range (bitLen m)).filter (fun e => m.testBit e)
theorem range_asc (n : Nat) : Asc (List.range n) := List.pairwise_lt_range
theorem things_asc (m : Nat) : Asc (thingsOf m) := (range_asc _).filter _
theorem mem_things {m i : Nat} : i ∈ thingsOf m ↔ m.testBit i = true := by
  unfold thingsOf
  rw [List.mem_filter, List.mem_range]
  refine ⟨fun h => h.2, fun h => ⟨?_, h⟩⟩
  have hm : 2 ^ i ≤ m := Nat.ge_two_pow_of_testBit h
  have h0 : m ≠ 0 := by
    have := Nat.two_pow_pos i
    omega
  unfold bitLen
  rw [if_neg h0]
  have := (Nat.le_log2 h0).mpr hm
  omega
theorem things_mask {l : T} (h : Asc l) : thingsOf (maskOf l) = l := asc_ext (things_asc _) h fun x => by rw [mem_things, mask_bit_iff h]
theorem mask_things (m : Nat) : maskOf (thingsOf m) = m := by
  apply Nat.eq_of_testBit_eq
  intro i
  have h := @mem_things m i
  rw [mask_bit (things_asc m)]
  cases hb : m.testBit i <;> simp_all
theorem things_inj {a b : Nat} (h : thingsOf a = thingsOf b) : a = b := by rw [← mask_things a, ← mask_things b, h]
theorem mask_inj {a b : T} (ha : Asc a) (hb : Asc b) (h : maskOf a = maskOf b) : a = b := by rw [← things_mask ha, ← things_mask hb, h]

/-! ### the least masks -/
def sortN (l : List Nat) : List Nat := l.mergeSort (fun a b => decide (a ≤ b))
theorem sortN_perm (l : List Nat) : (sortN l).Perm l := List.mergeSort_perm _ _
def leastStep (kept : List Nat) (m : Nat) : List Nat := if kept.all (fun o => o &&& m != o) then kept ++ [m] else kept
def leastMasks (ms : List Nat) : List Nat := (sortN ms).foldl leastStep []
theorem keepLeast_all : ∀ (r kept : List Nat), (kept ++ r).Pairwise (fun a b => ¬ Sb a b) → r.foldl leastStep kept = kept ++ r
  | [], kept, _ => by simp
  | m :: r, kept, h => by
    have hk : kept.all (fun o => o &&& m != o) = true := by
      rw [List.all_eq_true]
      intro o ho
      have := (List.pairwise_append.mp h).2.2 o ho m List.mem_cons_self
      simp only [bne_iff_ne, ne_eq]
      exact fun e => this (and_left_iff.mp e)
    rw [List.foldl_cons]
    have e : leastStep kept m = kept ++ [m] := by unfold leastStep; rw [if_pos hk]
    rw [e, keepLeast_all r (kept ++ [m]) (by simpa using h)]
    simp
theorem fold_take {α β : Type} (f : β → α → β) (b : β) {l : List α} {i : Nat} {x : α} (h : l[i]? = some x) : (l.take (i + 1)).foldl f b = f ((l.take i).foldl f b) x := by
  rw [List.take_add_one, h, List.foldl_append]
  rfl
def lotsOfMasks (ms : List Nat) : List T := srt (ms.map thingsOf)
def leastLots (lots : List T) : List T := lotsOfMasks (leastMasks (lots.map maskOf))
/-- good lots: none within another one, each ascending, in order -/
structure Good (lots : List T) : Prop where
  asc : ∀ l ∈ lots, Asc l
  lt : lots.Pairwise (· < ·)
  anti : ∀ l ∈ lots, ∀ m ∈ lots, (∀ x ∈ l, x ∈ m) → l = m
theorem least_good {lots : List T} (g : Good lots) : leastLots lots = lots := by
  have hp := sortN_perm (lots.map maskOf)
  have nd : (lots.map maskOf).Nodup := by
    refine List.pairwise_map.mpr ?_
    refine (List.Pairwise.and_mem.mp (nodup_of_lt g.lt)).imp ?_
    rintro a b ⟨ha, hb, hne⟩ e
    exact hne (mask_inj (g.asc a ha) (g.asc b hb) e)
  have nds : (sortN (lots.map maskOf)).Nodup := hp.nodup_iff.mpr nd
  have hk : leastMasks (lots.map maskOf) = sortN (lots.map maskOf) := by
    refine (keepLeast_all _ [] ?_).trans (by simp)
    refine (List.Pairwise.and_mem.mp nds).imp ?_
    rintro a b ⟨ha, hb, hne⟩ hs
    obtain ⟨l, hl, rfl⟩ := List.mem_map.mp (hp.mem_iff.mp ha)
    obtain ⟨m, hm, rfl⟩ := List.mem_map.mp (hp.mem_iff.mp hb)
    have : l = m := g.anti l hl m hm fun x hx => (mask_bit_iff (g.asc m hm)).mp (hs x ((mask_bit_iff (g.asc l hl)).mpr hx))
    exact hne (by rw [this])
  unfold leastLots lotsOfMasks
  rw [hk]
  have hid : (lots.map maskOf).map thingsOf = lots := by
    rw [List.map_map]
    have : lots.map (thingsOf ∘ maskOf) = lots.map id := List.map_congr_left fun l hl => things_mask (g.asc l hl)
    rw [this, List.map_id]
  have hperm : ((sortN (lots.map maskOf)).map thingsOf).Perm lots := by
    have := hp.map thingsOf
    rwa [hid] at this
  have h1 : srt ((sortN (lots.map maskOf)).map thingsOf) = srt lots := srt_ext (hperm.nodup_iff.mpr (nodup_of_lt g.lt)) (nodup_of_lt g.lt) fun x => hperm.mem_iff
  rw [h1, srt_id g.lt]
/-! ### the sets that meet all lots -/
def grownAt (met missed : List Nat) (mask : Nat) (g : List Nat) (e : Nat) : List Nat :=
  missed.foldl (fun g one => if (met.filter (fun t => t &&& mask == 2 ^ e)).all (fun two => two &&& (one ||| 2 ^ e) != two) then g ++ [one ||| 2 ^ e] else g) g
def blkStep (kept : List Nat) (lot : T) : List Nat :=
  kept.filter (fun one => one &&& maskOf lot != 0) ++ lot.foldl (grownAt (kept.filter (fun one => one &&& maskOf lot != 0)) (kept.filter (fun one => one &&& maskOf lot == 0)) (maskOf lot)) []
def blockerLots (lots : List T) : List T := lotsOfMasks (lots.foldl blkStep [0])
end KM
set_option autoImplicit false
/-! The law's own walk, as functions. -/
namespace KM
def inside (a b : T) : Bool := (a.filter fun x => !decide (x ∈ b)).length == 0
def common (a b : T) : Nat := (a.filter fun x => decide (x ∈ b)).length
def subsets (n : Nat) : List T := (List.range n).foldl (fun f t => f ++ f.map (· ++ [t])) [[]]
def leastL1 (lots : List T) (kept : List T) (lot : T) : List T :=
  if lot ∈ kept then kept else if (lots.filter fun o => !decide (o = lot) && inside o lot).length == 0 then kept ++ [lot] else kept
def leastL (lots : List T) : List T := srt (lots.foldl (leastL1 lots) [])
def holds (lots : List T) (those : T) : Bool := lots.any fun l => inside l those
def meets (lots : List T) (those : T) : Bool := lots.all fun l => common l those != 0
def spare (lots : List T) (s : T) : Nat := (s.filter fun t => meets lots (s.filter fun o => o != t)).length
def isBlk (lots : List T) (s : T) : Bool := meets lots s && spare lots s == 0
def blocker (n : Nat) (lots : List T) : List T := srt ((subsets n).filter (isBlk lots))
def sized (n k : Nat) : List T := srt ((subsets n).filter fun s => s.length == k)
def fanL (n : Nat) : List T := srt ((List.range (n - 1)).map (fun i => [0, i + 1]) ++ [(List.range (n - 1)).map fun i => i + 1])
def ringL (n : Nat) : List T := srt ((List.range (n - 1)).map (fun i => [i, i + 1]) ++ [[0, n - 1]])
def rest (n : Nat) (s : T) : T := (List.range n).filter fun t => !decide (t ∈ s)
def within (s : T) (wide : List T) : Bool := wide.any fun o => inside s o
theorem inside_iff {a b : T} : inside a b = true ↔ ∀ x ∈ a, x ∈ b := by
  unfold inside
  rw [beq_iff_eq, List.length_eq_zero_iff, List.filter_eq_nil_iff]
  simp
theorem common_ne {a b : T} : common a b ≠ 0 ↔ ∃ x ∈ a, x ∈ b := by
  unfold common
  rw [ne_eq, List.length_eq_zero_iff, List.filter_eq_nil_iff]
  simp
theorem holds_iff {lots : List T} {s : T} : holds lots s = true ↔ ∃ l ∈ lots, ∀ x ∈ l, x ∈ s := by
  unfold holds
  rw [List.any_eq_true]
  constructor
  · rintro ⟨l, h1, h2⟩; exact ⟨l, h1, inside_iff.mp h2⟩
  · rintro ⟨l, h1, h2⟩; exact ⟨l, h1, inside_iff.mpr h2⟩
theorem meets_iff {lots : List T} {s : T} : meets lots s = true ↔ ∀ l ∈ lots, ∃ x ∈ l, x ∈ s := by
  unfold meets
  rw [List.all_eq_true]
  constructor
  · intro h l hl
    exact common_ne.mp (by simpa using h l hl)
  · intro h l hl
    simpa using common_ne.mpr (h l hl)
theorem within_iff {wide : List T} {s : T} : within s wide = true ↔ ∃ o ∈ wide, ∀ x ∈ s, x ∈ o := by
  unfold within
  rw [List.any_eq_true]
  constructor
  · rintro ⟨l, h1, h2⟩; exact ⟨l, h1, inside_iff.mp h2⟩
  · rintro ⟨l, h1, h2⟩; exact ⟨l, h1, inside_iff.mpr h2⟩
theorem mem_rest {n : Nat} {s : T} {x : Nat} : x ∈ rest n s ↔ x < n ∧ x ∉ s := by
  unfold rest
  rw [List.mem_filter, List.mem_range]
  simp
theorem rest_asc (n : Nat) (s : T) : Asc (rest n s) := (range_asc n).filter _
/-! all sets -/
theorem range_succ_fold {α : Type} (f : α → Nat → α) (a : α) (n : Nat) : (List.range (n + 1)).foldl f a = f ((List.range n).foldl f a) n := by
  rw [List.range_succ, List.foldl_append]
  rfl
theorem subsets_succ (n : Nat) : subsets (n + 1) = subsets n ++ (subsets n).map (· ++ [n]) := range_succ_fold _ _ _
theorem subsets_len : ∀ n, (subsets n).length = 2 ^ n
  | 0 => rfl
  | n + 1 => by
    rw [subsets_succ, List.length_append, List.length_map, subsets_len n, Nat.pow_succ]
    omega
theorem subsets_mem : ∀ (n : Nat) (s : T), s ∈ subsets n ↔ Asc s ∧ ∀ x ∈ s, x < n
  | 0, s => by
    show s ∈ [[]] ↔ _
    constructor
    · intro h
      have : s = [] := by simpa using h
      subst this
      exact ⟨List.Pairwise.nil, by simp⟩
    · rintro ⟨_, h⟩
      cases s with
      | nil => simp
      | cons a r => exact absurd (h a List.mem_cons_self) (by omega)
  | n + 1, s => by
    rw [subsets_succ, List.mem_append, subsets_mem n s, List.mem_map]
    constructor
    · rintro (⟨h1, h2⟩ | ⟨t, ht, rfl⟩)
      · exact ⟨h1, fun x hx => Nat.lt_succ_of_lt (h2 x hx)⟩
      · obtain ⟨h1, h2⟩ := (subsets_mem n t).mp ht
        refine ⟨List.pairwise_append.mpr ⟨h1, List.pairwise_singleton _ _, fun a ha b hb => ?_⟩, fun x hx => ?_⟩
        · have : b = n := by simpa using hb
          rw [this]; exact h2 a ha
        · rcases List.mem_append.mp hx with hx | hx
          · exact Nat.lt_succ_of_lt (h2 x hx)
          · have : x = n := by simpa using hx
            omega
    · rintro ⟨h1, h2⟩
      by_cases hn : n ∈ s
      · right
        refine ⟨s.filter (fun x => decide (x < n)), (subsets_mem n _).mpr ⟨h1.filter _, fun x hx => by simpa using (List.mem_filter.mp hx).2⟩, ?_⟩
        refine asc_ext (List.pairwise_append.mpr ⟨h1.filter _, List.pairwise_singleton _ _, fun a ha b hb => ?_⟩) h1 fun x => ?_
        · have : b = n := by simpa using hb
          rw [this]; simpa using (List.mem_filter.mp ha).2
        · rw [List.mem_append, List.mem_filter, List.mem_singleton]
          constructor
          · rintro (⟨h, _⟩ | rfl)
            · exact h
            · exact hn
          · intro h
            have := h2 x h
            by_cases hx : x = n
            · exact .inr hx
            · exact .inl ⟨h, by simp; omega⟩
      · left
        refine ⟨h1, fun x hx => ?_⟩
        have := h2 x hx
        have : x ≠ n := fun e => hn (e ▸ hx)
        omega
theorem subsets_nodup : ∀ n, (subsets n).Nodup
  | 0 => by show ([[]] : List T).Nodup; simp
  | n + 1 => by
    rw [subsets_succ]
    refine List.pairwise_append.mpr ⟨subsets_nodup n, List.pairwise_map.mpr ((subsets_nodup n).imp fun {a b} h e => h (List.append_cancel_right e)), fun a ha b hb e => ?_⟩
    obtain ⟨t, _, rfl⟩ := List.mem_map.mp hb
    have := ((subsets_mem n a).mp ha).2 n (by rw [e]; simp)
    omega
end KM
set_option Elab.async false
set_option linter.all false
set_option autoImplicit false
set_option maxRecDepth 100000
/-! Data over the hand layer: what a value stands for (Is), the state as data slot by slot (Env), what an expression gives as data (EP, EF, ET). -/
namespace Y
open PySem L2

inductive D where
  | non | bl (b : Bool) | int (i : Int) | str (x : Str) | ty (n : String)
  | adr (a : Addr) | tup (l : List D) | lst (l : List D) | ins (C : Addr) (ns : List Str) (l : List D)

mutual
inductive Is (K : PySem.W.Frag) (H : Hp) : V → D → Prop
  | non : Is K H .non .non
  | bl (b : Bool) : Is K H (.bl b) (.bl b)
  | int (i : Int) : Is K H (.int i) (.int i)
  | str (x : Str) : Is K H (.str x) (.str x)
  | ty (n : String) : Is K H (.ty n) (.ty n)
  | adr (a : Addr) : Is K H (.ref a) (.adr a)
  | tup {a : Addr} {xs : List V} {l : List D} : SqT K H a xs → IsAll K H xs l → Is K H (.ref a) (.tup l)
  | lst {a : Addr} {xs : List V} {l : List D} : SqL K H a xs → IsAll K H xs l → Is K H (.ref a) (.lst l)
  | ins {a C dx : Addr} {fs : List (Str × V)} {ns : List Str} {l : List D} : H a = some (.ins C dx fs) → fs.map (·.1) = ns → IsAll K H (fs.map (·.2)) l → Is K H (.ref a) (.ins C ns l)
inductive IsAll (K : PySem.W.Frag) (H : Hp) : List V → List D → Prop
  | nil : IsAll K H [] []
  | cons {v : V} {vs : List V} {d : D} {l : List D} : Is K H v d → IsAll K H vs l → IsAll K H (v :: vs) (d :: l)
end

/-- all that is known in H is known in H' -/
def Ex (H H' : Hp) : Prop := ∀ a o, H a = some o → H' a = some o
theorem Ex.refl (H : Hp) : Ex H H := fun _ _ h => h
theorem Ex.trans {H H1 H2 : Hp} (a : Ex H H1) (b : Ex H1 H2) : Ex H H2 := fun x o h => b x o (a x o h)
theorem Ex.new {H : Hp} {p : Addr} {o : HO} (h : H p = none) : Ex H (upd H p o) := fun a u e => by
  rw [upd_ne (ne_of_none e h)]
  exact e
theorem Ex.back {H H' : Hp} {p : Addr} (e : Ex H H') (h : H' p = none) : H p = none := by
  cases h1 : H p with
  | none => rfl
  | some o =>
    rw [e p o h1] at h
    cases h

/-- the heap without what may change -/
def hid (P : List Addr) (H : Hp) : Hp := fun a => if a ∈ P then none else H a
theorem hid_nil (H : Hp) : hid [] H = H := by funext a; simp [hid]
theorem hid_at {P : List Addr} {H : Hp} {a : Addr} (h : a ∉ P) : hid P H a = H a := by simp [hid, h]
theorem hid_some {P : List Addr} {H : Hp} {a : Addr} {o : HO} (h : hid P H a = some o) : a ∉ P ∧ H a = some o := by
  unfold hid at h
  split at h
  · cases h
  · exact ⟨by assumption, h⟩
theorem hid_le (P : List Addr) (H : Hp) : Ex (hid P H) H := fun _ _ h => (hid_some h).2
theorem hid_sub {P P' : List Addr} {H : Hp} (h : ∀ a ∈ P', a ∈ P) : Ex (hid P H) (hid P' H) := fun a o e => by
  obtain ⟨h1, h2⟩ := hid_some e
  rw [hid_at fun z => h1 (h a z)]
  exact h2
theorem hid_ex {P : List Addr} {H H' : Hp} (e : Ex H H') : Ex (hid P H) (hid P H') := fun a o h => by
  obtain ⟨h1, h2⟩ := hid_some h
  rw [hid_at h1]
  exact e a o h2

section
variable {K : PySem.W.Frag} {H H' : Hp}
theorem rd_ex {a : Addr} {u : HO} (e : Ex H H') (h : Rd H a u) : Rd H' a u := by
  rcases h with h | ⟨o, h⟩
  · exact .inl (e a _ h)
  · exact .inr ⟨o, e a _ h⟩
theorem sqL_ex {a : Addr} {xs : List V} (e : Ex H H') (h : SqL K H a xs) : SqL K H' a xs := h.elim (fun h => .inl (rd_ex e h)) .inr
theorem sqT_ex {a : Addr} {xs : List V} (e : Ex H H') (h : SqT K H a xs) : SqT K H' a xs := h.elim (fun h => .inl (rd_ex e h)) .inr
mutual
theorem Is.mono (e : Ex H H') : ∀ {v : V} {d : D}, Is K H v d → Is K H' v d
  | _, _, .non => .non
  | _, _, .bl b => .bl b
  | _, _, .int i => .int i
  | _, _, .str x => .str x
  | _, _, .ty n => .ty n
  | _, _, .adr a => .adr a
  | _, _, .tup h t => .tup (sqT_ex e h) (IsAll.mono e t)
  | _, _, .lst h t => .lst (sqL_ex e h) (IsAll.mono e t)
  | _, _, .ins h n t => .ins (e _ _ h) n (IsAll.mono e t)
theorem IsAll.mono (e : Ex H H') : ∀ {vs : List V} {l : List D}, IsAll K H vs l → IsAll K H' vs l
  | _, _, .nil => .nil
  | _, _, .cons h t => .cons (Is.mono e h) (IsAll.mono e t)
end
/-! data without a list: nothing of it can change -/
mutual
def D.im : D → Bool
  | .lst _ => false
  | .tup l => imAll l
  | .ins _ _ l => imAll l
  | _ => true
def imAll : List D → Bool
  | [] => true
  | d :: l => d.im && imAll l
end
theorem imAll_iff : ∀ {l : List D}, imAll l = true ↔ ∀ d ∈ l, d.im = true
  | [] => by simp [imAll]
  | d :: l => by simp [imAll, imAll_iff (l := l)]
/-- the addresses that may change hold lists -/
def Lsts (P : List Addr) (H : Hp) : Prop := ∀ p ∈ P, ∃ xs, H p = some (.lst xs)
theorem lsts_rd {P : List Addr} {a : Addr} {u : HO} (hP : Lsts P H) (hu : ∀ xs, u ≠ .lst xs) (h : Rd H a u) : Rd (hid P H) a u := by
  have na : ∀ {o : HO}, (∀ xs, o ≠ .lst xs) → H a = some o → a ∉ P := fun {o} ho e m => by
    obtain ⟨xs, q⟩ := hP a m
    rw [e] at q
    exact ho xs (Option.some.inj q)
  rcases h with h | ⟨o, h⟩
  · exact .inl (by rw [hid_at (na hu h)]; exact h)
  · exact .inr ⟨o, by rw [hid_at (na (fun xs z => by cases z) h)]; exact h⟩
mutual
theorem Is.clean {P : List Addr} (hP : Lsts P H) : ∀ {v : V} {d : D}, Is K H v d → d.im = true → Is K (hid P H) v d
  | _, _, .non, _ => .non
  | _, _, .bl b, _ => .bl b
  | _, _, .int i, _ => .int i
  | _, _, .str x, _ => .str x
  | _, _, .ty n, _ => .ty n
  | _, _, .adr a, _ => .adr a
  | _, _, .tup h t, im => .tup (h.elim (fun h => .inl (lsts_rd hP (fun xs z => by cases z) h)) .inr) (IsAll.clean hP t (by simpa [D.im] using im))
  | _, _, .lst h t, im => by simp [D.im] at im
  | _, _, .ins (a := a) h n t, im => .ins (by
      rw [hid_at fun m => by
        obtain ⟨xs, q⟩ := hP a m
        rw [h] at q
        cases q]
      exact h) n (IsAll.clean hP t (by simpa [D.im] using im))
theorem IsAll.clean {P : List Addr} (hP : Lsts P H) : ∀ {vs : List V} {l : List D}, IsAll K H vs l → imAll l = true → IsAll K (hid P H) vs l
  | _, _, .nil, _ => .nil
  | _, _, .cons h t, im => .cons (Is.clean hP h (by simp [imAll] at im; exact im.1)) (IsAll.clean hP t (by simp [imAll] at im; exact im.2))
end
theorem IsAll.length : ∀ {vs : List V} {l : List D}, IsAll K H vs l → vs.length = l.length
  | _, _, .nil => rfl
  | _, _, .cons _ t => by simp [IsAll.length t]
theorem IsAll.get : ∀ {vs : List V} {l : List D} {i : Nat} {v : V}, IsAll K H vs l → vs[i]? = some v → ∃ d, l[i]? = some d ∧ Is K H v d
  | _, _, i, v, .nil, e => by simp at e
  | _, _, 0, v, .cons h t, e => by simp at e; subst e; exact ⟨_, rfl, h⟩
  | _, _, i + 1, v, .cons h t, e => by
    obtain ⟨d, h1, h2⟩ := IsAll.get t (i := i) (v := v) (by simpa using e)
    exact ⟨d, by simpa using h1, h2⟩
theorem IsAll.getD : ∀ {vs : List V} {l : List D} {i : Nat} {d : D}, IsAll K H vs l → l[i]? = some d → ∃ v, vs[i]? = some v ∧ Is K H v d
  | _, _, i, d, .nil, e => by simp at e
  | _, _, 0, d, .cons h t, e => by simp at e; subst e; exact ⟨_, rfl, h⟩
  | _, _, i + 1, d, .cons h t, e => by
    obtain ⟨v, h1, h2⟩ := IsAll.getD t (i := i) (d := d) (by simpa using e)
    exact ⟨v, by simpa using h1, h2⟩
theorem IsAll.append : ∀ {vs us : List V} {l m : List D}, IsAll K H vs l → IsAll K H us m → IsAll K H (vs ++ us) (l ++ m)
  | _, _, _, _, .nil, q => q
  | _, _, _, _, .cons h t, q => .cons h (IsAll.append t q)
theorem IsAll.one {v : V} {d : D} (h : Is K H v d) : IsAll K H [v] [d] := .cons h .nil
theorem IsAll.rev {vs : List V} {l : List D} (h : IsAll K H vs l) : IsAll K H vs.reverse l.reverse := by
  induction vs generalizing l with
  | nil => cases h; exact .nil
  | cons v vs ih =>
    cases h with
    | cons h t =>
      rw [List.reverse_cons, List.reverse_cons]
      exact (ih t).append (.one h)
theorem IsAll.take : ∀ {vs : List V} {l : List D} (n : Nat), IsAll K H vs l → IsAll K H (vs.take n) (l.take n)
  | _, _, 0, _ => .nil
  | _, _, _ + 1, .nil => .nil
  | _, _, n + 1, .cons h t => .cons h (IsAll.take n t)
theorem IsAll.drop : ∀ {vs : List V} {l : List D} (n : Nat), IsAll K H vs l → IsAll K H (vs.drop n) (l.drop n)
  | _, _, 0, h => h
  | _, _, _ + 1, .nil => .nil
  | _, _, n + 1, .cons _ t => IsAll.drop n t
theorem IsAll.dropLast {vs : List V} {l : List D} (h : IsAll K H vs l) : IsAll K H vs.dropLast l.dropLast := by
  rw [List.dropLast_eq_take, List.dropLast_eq_take, h.length]
  exact h.take _
/-- ints -/
theorem IsAll.ints : ∀ {vs : List V} {ns : List Int}, IsAll K H vs (ns.map D.int) → vs = ns.map V.int
  | _, [], .nil => rfl
  | _, n :: ns, .cons h t => by
    cases h
    rw [IsAll.ints t]
    rfl
theorem isAll_ints : ∀ (ns : List Int), IsAll K H (ns.map V.int) (ns.map D.int)
  | [] => .nil
  | n :: ns => .cons (.int n) (isAll_ints ns)
theorem Is.int_inv {v : V} {i : Int} (h : Is K H v (.int i)) : v = .int i := by cases h; rfl
theorem Is.bl_inv {v : V} {b : Bool} (h : Is K H v (.bl b)) : v = .bl b := by cases h; rfl
theorem Is.tup_inv {v : V} {l : List D} (h : Is K H v (.tup l)) : ∃ a xs, v = .ref a ∧ SqT K H a xs ∧ IsAll K H xs l := by
  cases h with
  | tup h t => exact ⟨_, _, rfl, h, t⟩
theorem Is.lst_inv {v : V} {l : List D} (h : Is K H v (.lst l)) : ∃ a xs, v = .ref a ∧ SqL K H a xs ∧ IsAll K H xs l := by
  cases h with
  | lst h t => exact ⟨_, _, rfl, h, t⟩
theorem Is.ins_inv {v : V} {C : Addr} {ns : List Str} {l : List D} (h : Is K H v (.ins C ns l)) : ∃ a dx fs, v = .ref a ∧ H a = some (.ins C dx fs) ∧ fs.map (·.1) = ns ∧ IsAll K H (fs.map (·.2)) l := by
  cases h with
  | ins h n t => exact ⟨_, _, _, rfl, h, n, t⟩
end

/-! ### the state as data -/
inductive Slot where
  | no | val (d : D) | own (p : Addr) (l : List D)
def ows : List Slot → List Addr
  | [] => []
  | .own p _ :: E => p :: ows E
  | .no :: E => ows E
  | .val _ :: E => ows E
theorem mem_ows : ∀ {E : List Slot} {p : Addr}, p ∈ ows E ↔ ∃ (i : Nat) (l : List D), E[i]? = some (.own p l)
  | [], p => by simp [ows]
  | .own q m :: E, p => by
    rw [show ows (.own q m :: E) = q :: ows E from rfl, List.mem_cons, mem_ows (E := E)]
    constructor
    · rintro (rfl | ⟨i, l, h⟩)
      · exact ⟨0, m, rfl⟩
      · exact ⟨i + 1, l, by simpa using h⟩
    · rintro ⟨i, l, h⟩
      cases i with
      | zero => simp at h; exact .inl h.1.symm
      | succ i => exact .inr ⟨i, l, by simpa using h⟩
  | .no :: E, p => by
    rw [show ows (.no :: E) = ows E from rfl, mem_ows (E := E)]
    constructor
    · rintro ⟨i, l, h⟩; exact ⟨i + 1, l, by simpa using h⟩
    · rintro ⟨i, l, h⟩
      cases i with
      | zero => simp at h
      | succ i => exact ⟨i, l, by simpa using h⟩
  | .val d :: E, p => by
    rw [show ows (.val d :: E) = ows E from rfl, mem_ows (E := E)]
    constructor
    · rintro ⟨i, l, h⟩; exact ⟨i + 1, l, by simpa using h⟩
    · rintro ⟨i, l, h⟩
      cases i with
      | zero => simp at h
      | succ i => exact ⟨i, l, by simpa using h⟩

/-- the state as data: K the written part; B what the def may change of its caller's; H0 the heap at its entry; Z values held besides -/
structure Env (K : PySem.W.Frag) (B : List Addr) (H0 : Hp) (Z : Hp → Prop) (E : List Slot) (σ : L2.St) (H : Hp) : Prop where
  ex : ∀ a o, a ∉ B → H0 a = some o → H a = some o
  inj : ∀ (i j : Nat) (p : Addr) (l m : List D), E[i]? = some (.own p l) → E[j]? = some (.own p m) → i = j
  fr : ∀ (i : Nat) (p : Addr) (l : List D), E[i]? = some (.own p l) → p ∈ B ∨ H0 p = none
  len : σ.length = E.length
  val : ∀ (i : Nat) (d : D), E[i]? = some (.val d) → ∃ v, σ[i]? = some (some v) ∧ Is K (hid (ows E) H) v d
  own : ∀ (i : Nat) (p : Addr) (l : List D), E[i]? = some (.own p l) → σ[i]? = some (some (.ref p)) ∧ ∃ vs, H p = some (.lst vs) ∧ IsAll K (hid (ows E) H) vs l
  pin : Z (hid (ows E) H)
  zm : ∀ {H H' : Hp}, Ex H H' → Z H → Z H'

section
variable {K : PySem.W.Frag} {B : List Addr} {H0 : Hp} {Z : Hp → Prop} {E : List Slot} {σ : L2.St} {H H' : Hp}
theorem Env.lsts (e : Env K B H0 Z E σ H) : Lsts (ows E) H := fun p hp => by
  obtain ⟨i, l, h⟩ := mem_ows.mp hp
  obtain ⟨_, vs, h2, _⟩ := e.own i p l h
  exact ⟨vs, h2⟩
theorem Env.ext (e : Env K B H0 Z E σ H) (x : Ex H H') : Env K B H0 Z E σ H' where
  ex a o h q := x a o (e.ex a o h q)
  inj := e.inj
  fr := e.fr
  len := e.len
  val i d h := let ⟨v, a, b⟩ := e.val i d h; ⟨v, a, b.mono (hid_ex x)⟩
  own i p l h := let ⟨a, vs, b, c⟩ := e.own i p l h; ⟨a, vs, x _ _ b, c.mono (hid_ex x)⟩
  pin := e.zm (hid_ex x) e.pin
  zm := e.zm
/-- a value held besides -/
theorem Env.hold {v : V} {d : D} (e : Env K B H0 Z E σ H) (h : Is K H v d) (im : d.im = true) : Env K B H0 (fun H => Z H ∧ Is K H v d) E σ H :=
  ⟨e.ex, e.inj, e.fr, e.len, e.val, e.own, ⟨e.pin, h.clean e.lsts im⟩, fun x q => ⟨e.zm x q.1, q.2.mono x⟩⟩
theorem Env.drop {Y : Hp → Prop} (e : Env K B H0 (fun H => Z H ∧ Y H) E σ H) (zm : ∀ {H H' : Hp}, Ex H H' → Z H → Z H') : Env K B H0 Z E σ H := ⟨e.ex, e.inj, e.fr, e.len, e.val, e.own, e.pin.1, zm⟩
theorem set_get {E : List Slot} {i j : Nat} {s t : Slot} (h : (E.set i s)[j]? = some t) : (i = j ∧ s = t ∧ i < E.length) ∨ (i ≠ j ∧ E[j]? = some t) := by
  rw [List.getElem?_set] at h
  by_cases hij : i = j
  · rw [if_pos hij] at h
    by_cases hlt : i < E.length
    · rw [if_pos hlt] at h
      exact .inl ⟨hij, Option.some.inj h, hlt⟩
    · rw [if_neg hlt] at h
      cases h
  · rw [if_neg hij] at h
    exact .inr ⟨hij, h⟩
theorem ows_sub {i : Nat} {s : Slot} (hs : ∀ p l, s ≠ .own p l) : ∀ a ∈ ows (E.set i s), a ∈ ows E := fun a ha => by
  obtain ⟨j, l, h⟩ := mem_ows.mp ha
  rcases set_get h with ⟨_, q, _⟩ | ⟨_, q⟩
  · exact absurd q (hs a l)
  · exact mem_ows.mpr ⟨j, l, q⟩
/-- a slot gets a value -/
theorem Env.setC {i : Nat} {v : V} {d : D} (e : Env K B H0 Z E σ H) (h : Is K (hid (ows E) H) v d) : Env K B H0 Z (E.set i (.val d)) (σ.set i (some v)) H := by
  have sb : Ex (hid (ows E) H) (hid (ows (E.set i (.val d))) H) := hid_sub (ows_sub fun p l z => by cases z)
  have old : ∀ {j : Nat} {p : Addr} {l : List D}, (E.set i (.val d))[j]? = some (.own p l) → i ≠ j ∧ E[j]? = some (.own p l) := fun {j p l} q => by
    rcases set_get q with ⟨_, z, _⟩ | z
    · cases z
    · exact z
  refine ⟨e.ex, fun a b p l m h1 h2 => e.inj a b p l m (old h1).2 (old h2).2, fun a p l h1 => e.fr a p l (old h1).2, by simp [e.len], fun j d' q => ?_, fun j p l q => ?_, e.zm sb e.pin, e.zm⟩
  · rcases set_get q with ⟨hij, hd, hlt⟩ | ⟨hij, q⟩
    · cases hd
      subst hij
      exact ⟨v, by rw [List.getElem?_set_self (by rw [e.len]; exact hlt)], h.mono sb⟩
    · obtain ⟨w, q1, q2⟩ := e.val j d' q
      exact ⟨w, by rw [List.getElem?_set_ne hij]; exact q1, q2.mono sb⟩
  · obtain ⟨hij, q'⟩ := old q
    obtain ⟨q1, vs, q2, q3⟩ := e.own j p l q'
    exact ⟨by rw [List.getElem?_set_ne hij]; exact q1, vs, q2, q3.mono sb⟩
theorem Env.set {i : Nat} {v : V} {d : D} (e : Env K B H0 Z E σ H) (h : Is K H v d) (im : d.im = true) : Env K B H0 Z (E.set i (.val d)) (σ.set i (some v)) H := e.setC (h.clean e.lsts im)
/-- a slot gets a new list -/
theorem Env.setO {i : Nat} {p : Addr} {vs : List V} {l : List D} {Hb : Hp} (e : Env K B H0 Z E σ Hb) (x : Ex Hb H) (hp : Hb p = none) (hH : H p = some (.lst vs)) (h : IsAll K H vs l) (im : imAll l = true) (h0 : p ∉ B → H0 p = none := by assumption) :
    Env K B H0 Z (E.set i (.own p l)) (σ.set i (some (.ref p))) H := by
  have np : ∀ a ∈ ows E, a ≠ p := fun a ha z => by
    obtain ⟨xs, q⟩ := e.lsts a ha
    rw [z, hp] at q
    cases q
  have sb : Ex (hid (ows E) Hb) (hid (ows (E.set i (.own p l))) H) := fun a o q => by
    obtain ⟨q1, q2⟩ := hid_some q
    rw [hid_at]
    · exact x a o q2
    · intro m
      obtain ⟨j, l', hj⟩ := mem_ows.mp m
      rcases set_get hj with ⟨_, z, _⟩ | ⟨_, z⟩
      · injection z with z1 z2
        rw [← z1, hp] at q2
        cases q2
      · exact q1 (mem_ows.mpr ⟨j, l', z⟩)
  have e' := e.ext x
  have lsH : Lsts (ows (E.set i (.own p l))) H := fun a ha => by
    obtain ⟨j, l', hj⟩ := mem_ows.mp ha
    rcases set_get hj with ⟨_, z, _⟩ | ⟨_, z⟩
    · injection z with z1 z2
      exact ⟨vs, by rw [← z1]; exact hH⟩
    · exact e'.lsts a (mem_ows.mpr ⟨j, l', z⟩)
  have hp0 : p ∈ B ∨ H0 p = none := by
    by_cases hb : p ∈ B
    · exact .inl hb
    · exact .inr (h0 hb)
  have cases' : ∀ {j : Nat} {q : Addr} {m : List D}, (E.set i (.own p l))[j]? = some (.own q m) → (i = j ∧ p = q ∧ l = m ∧ i < E.length) ∨ (i ≠ j ∧ E[j]? = some (.own q m)) := fun {j q m} hj => by
    rcases set_get hj with ⟨h1, z, h2⟩ | z
    · injection z with z1 z2
      exact .inl ⟨h1, z1, z2, h2⟩
    · exact .inr z
  refine ⟨e'.ex, fun a b q m n h1 h2 => ?_, fun a q m h1 => ?_, by simp [e.len], fun j d' q => ?_, fun j q m hj => ?_, e.zm sb e.pin, e.zm⟩
  · rcases cases' h1 with ⟨r1, r2, _, _⟩ | ⟨r1, r2⟩ <;> rcases cases' h2 with ⟨s1, s2, _, _⟩ | ⟨s1, s2⟩
    · rw [← r1, ← s1]
    · exact absurd r2.symm (np q (mem_ows.mpr ⟨b, n, s2⟩))
    · exact absurd s2.symm (np q (mem_ows.mpr ⟨a, m, r2⟩))
    · exact e.inj a b q m n r2 s2
  · rcases cases' h1 with ⟨_, r2, _, _⟩ | ⟨_, r2⟩
    · rw [← r2]; exact hp0
    · exact e.fr a q m r2
  · rcases set_get q with ⟨_, z, _⟩ | ⟨hij, q⟩
    · cases z
    · obtain ⟨w, q1, q2⟩ := e.val j d' q
      exact ⟨w, by rw [List.getElem?_set_ne hij]; exact q1, q2.mono sb⟩
  · rcases cases' hj with ⟨r1, r2, r3, r4⟩ | ⟨r1, r2⟩
    · subst r1 r2 r3
      exact ⟨by rw [List.getElem?_set_self (by rw [e.len]; exact r4)], vs, hH, h.clean lsH im⟩
    · obtain ⟨q1, ws, q2, q3⟩ := e.own j q m r2
      exact ⟨by rw [List.getElem?_set_ne r1]; exact q1, ws, x _ _ q2, q3.mono sb⟩
/-- an owned list changes -/
theorem Env.chg {i : Nat} {p : Addr} {l l' : List D} {vs' : List V} (e : Env K B H0 Z E σ H) (hi : E[i]? = some (.own p l)) (h : IsAll K (hid (ows E) H) vs' l') :
    Env K B H0 Z (E.set i (.own p l')) σ (upd H p (.lst vs')) := by
  have hlt : i < E.length := (List.getElem?_eq_some_iff.mp hi).1
  have ho : ∀ a, a ∈ ows (E.set i (.own p l')) ↔ a ∈ ows E := fun a => by
    rw [mem_ows, mem_ows]
    constructor
    · rintro ⟨j, m, hj⟩
      rcases set_get hj with ⟨_, z, _⟩ | ⟨_, z⟩
      · injection z with z1 z2
        exact ⟨i, l, by rw [← z1]; exact hi⟩
      · exact ⟨j, m, z⟩
    · rintro ⟨j, m, hj⟩
      by_cases hij : i = j
      · subst hij
        rw [hi] at hj
        injection (Option.some.inj hj) with z1 z2
        exact ⟨i, l', by rw [List.getElem?_set_self hlt, z1]⟩
      · exact ⟨j, m, by rw [List.getElem?_set_ne hij]; exact hj⟩
  have sb : Ex (hid (ows E) H) (hid (ows (E.set i (.own p l'))) (upd H p (.lst vs'))) := fun a o q => by
    obtain ⟨q1, q2⟩ := hid_some q
    have hap : a ≠ p := fun z => q1 (by rw [z]; exact mem_ows.mpr ⟨i, l, hi⟩)
    rw [hid_at (fun m => q1 ((ho a).mp m)), upd_ne hap]
    exact q2
  have cases' : ∀ {j : Nat} {q : Addr} {m : List D}, (E.set i (.own p l'))[j]? = some (.own q m) → (i = j ∧ p = q ∧ l' = m) ∨ (i ≠ j ∧ E[j]? = some (.own q m)) := fun {j q m} hj => by
    rcases set_get hj with ⟨h1, z, h2⟩ | z
    · injection z with z1 z2
      exact .inl ⟨h1, z1, z2⟩
    · exact .inr z
  refine ⟨fun a o hb q => ?_, fun a b q m n h1 h2 => ?_, fun a q m h1 => ?_, by simp [e.len], fun j d' q => ?_, fun j q m hj => ?_, e.zm sb e.pin, e.zm⟩
  · have hap : a ≠ p := fun z => by
      rcases e.fr i p l hi with w | w
      · exact hb (by rw [z]; exact w)
      · rw [z, w] at q; cases q
    rw [upd_ne hap]
    exact e.ex a o hb q
  · rcases cases' h1 with ⟨r1, r2, _⟩ | ⟨r1, r2⟩ <;> rcases cases' h2 with ⟨s1, s2, _⟩ | ⟨s1, s2⟩
    · rw [← r1, ← s1]
    · exact e.inj a b q l n (by rw [← r1, ← r2]; exact hi) s2
    · exact e.inj a b q m l r2 (by rw [← s1, ← s2]; exact hi)
    · exact e.inj a b q m n r2 s2
  · rcases cases' h1 with ⟨_, r2, _⟩ | ⟨_, r2⟩
    · rw [← r2]; exact e.fr i p l hi
    · exact e.fr a q m r2
  · rcases set_get q with ⟨_, z, _⟩ | ⟨hij, q⟩
    · cases z
    · obtain ⟨w, q1, q2⟩ := e.val j d' q
      exact ⟨w, q1, q2.mono sb⟩
  · rcases cases' hj with ⟨r1, r2, r3⟩ | ⟨r1, r2⟩
    · subst r1 r2 r3
      exact ⟨(e.own i p l hi).1, vs', upd_same, h.mono sb⟩
    · obtain ⟨q1, ws, q2, q3⟩ := e.own j q m r2
      have hqp : q ≠ p := fun z => r1 (e.inj i j p l m hi (by rw [← z]; exact r2))
      exact ⟨q1, ws, by rw [upd_ne hqp]; exact q2, q3.mono sb⟩
end
end Y
set_option Elab.async false
set_option linter.all false
set_option autoImplicit false
set_option maxRecDepth 100000
/-! What expressions, tests and statements give, as data. -/
namespace Y
open PySem L2

section
variable (K : PySem.W.Frag) (B : List Addr) (H0 : Hp) (Z : Hp → Prop)
/-- an expression gives d, making at most new things -/
def EP (te : TE) (E : List Slot) (d : D) : Prop := ∀ σ H, Env K B H0 Z E σ H → ∀ Q : VK, (∀ v H', Ex H H' → Is K H' v d → Q v H') → te σ H Q
/-- .. a new list -/
def EF (te : TE) (E : List Slot) (l : List D) : Prop := ∀ σ H, Env K B H0 Z E σ H → ∀ Q : VK, (∀ p vs H', H p = none → Ex H H' → H' p = some (.lst vs) → IsAll K H' vs l → Q (.ref p) H') → te σ H Q
def ET (t : TT) (E : List Slot) (b : Bool) : Prop := ∀ σ H, Env K B H0 Z E σ H → ∀ Q : Bool → Hp → Prop, (∀ H', Ex H H' → Q b H') → t σ H Q
def EA (ta : TA) (E : List Slot) (l : List D) : Prop := ∀ σ H, Env K B H0 Z E σ H → ∀ Q : List V → Hp → Prop, (∀ vs H', Ex H H' → IsAll K H' vs l → Q vs H') → ta σ H Q
/-- a statement runs well from E -/
def SD (t : TS) (D : Ends) (E : List Slot) : Prop := ∀ σ H, Env K B H0 Z E σ H → t D σ H
/-- d may be handed back -/
def RT (D : Ends) (d : Y.D) : Prop := ∀ v H, (∀ a o, a ∉ B → H0 a = some o → H a = some o) → Is K H v d → D.rt v H
end
section
variable (K : PySem.W.Frag)
/-- an operation of two values -/
def R2d (r : R2) (x y z : D) : Prop := ∀ vx vy H, Is K H vx x → Is K H vy y → ∀ Q : VK, (∀ v H', Ex H H' → Is K H' v z → Q v H') → r vx vy H Q
def R1d (r : V → Hp → VK → Prop) (x z : D) : Prop := ∀ vx H, Is K H vx x → ∀ Q : VK, (∀ v H', Ex H H' → Is K H' v z → Q v H') → r vx H Q
def RCd (r : List V → Hp → VK → Prop) (l : List D) (z : D) : Prop := ∀ vs H, IsAll K H vs l → ∀ Q : VK, (∀ v H', Ex H H' → Is K H' v z → Q v H') → r vs H Q
def RCf (r : List V → Hp → VK → Prop) (l : List D) (m : List D) : Prop := ∀ vs H, IsAll K H vs l → ∀ Q : VK, (∀ p ws H', H p = none → Ex H H' → H' p = some (.lst ws) → IsAll K H' ws m → Q (.ref p) H') → r vs H Q
def R2f (r : R2) (x y : D) (m : List D) : Prop := ∀ vx vy H, Is K H vx x → Is K H vy y → ∀ Q : VK, (∀ p ws H', H p = none → Ex H H' → H' p = some (.lst ws) → IsAll K H' ws m → Q (.ref p) H') → r vx vy H Q
end

section
variable {K : PySem.W.Frag} {B : List Addr} {H0 : Hp} {Z : Hp → Prop} {E : List Slot} {ta tb tc te : TE} {t u : TT} {ea : TA} {x y z d : D} {l m : List D} {b c : Bool}
theorem EF.p (h : EF K B H0 Z te E l) : EP K B H0 Z te E (.lst l) := fun σ H e Q q => h σ H e Q fun p vs H' _ x h1 h2 => q _ _ x (.lst (SqL.of h1) h2)
theorem ep_var {i : Nat} (h : E[i]? = some (.val d)) : EP K B H0 Z (tVar i) E d := fun σ H e Q q => by
  obtain ⟨v, h1, h2⟩ := e.val i d h
  exact ⟨v, h1, q v H (Ex.refl H) (h2.mono (hid_le _ _))⟩
theorem ep_own {i : Nat} {p : Addr} (h : E[i]? = some (.own p l)) : EP K B H0 Z (tVar i) E (.lst l) := fun σ H e Q q => by
  obtain ⟨h1, vs, h2, h3⟩ := e.own i p l h
  exact ⟨_, h1, q _ H (Ex.refl H) (.lst (SqL.of h2) (h3.mono (hid_le _ _)))⟩
theorem ep_int {i : Int} : EP K B H0 Z (tC (.int i)) E (.int i) := fun σ H _ Q q => q _ H (Ex.refl H) (.int i)
theorem ep_bl {b : Bool} : EP K B H0 Z (tC (.bl b)) E (.bl b) := fun σ H _ Q q => q _ H (Ex.refl H) (.bl b)
theorem ep_str {s : Str} : EP K B H0 Z (tC (.str s)) E (.str s) := fun σ H _ Q q => q _ H (Ex.refl H) (.str s)
theorem ep_non : EP K B H0 Z (tC .non) E .non := fun σ H _ Q q => q _ H (Ex.refl H) .non
theorem ep_ty {n : String} : EP K B H0 Z (tC (.ty n)) E (.ty n) := fun σ H _ Q q => q _ H (Ex.refl H) (.ty n)
theorem ep_is {d' : D} (h : EP K B H0 Z te E d) (e : d = d') : EP K B H0 Z te E d' := e ▸ h
theorem ep_op {r : R2} (ha : EP K B H0 Z ta E x) (hb : EP K B H0 Z tb E y) (hr : R2d K r x y z) : EP K B H0 Z (tOp r ta tb) E z := fun σ H e Q q =>
  ha σ H e _ fun vx H1 e1 h1 => hb σ H1 (e.ext e1) _ fun vy H2 e2 h2 => hr vx vy H2 (h1.mono e2) h2 Q fun v H3 e3 h3 => q v H3 ((e1.trans e2).trans e3) h3
theorem ef_op {r : R2} (ha : EP K B H0 Z ta E x) (hb : EP K B H0 Z tb E y) (hr : R2f K r x y m) : EF K B H0 Z (tOp r ta tb) E m := fun σ H e Q q =>
  ha σ H e _ fun vx H1 e1 h1 => hb σ H1 (e.ext e1) _ fun vy H2 e2 h2 => hr vx vy H2 (h1.mono e2) h2 Q fun p ws H3 np e3 hp h3 => q p ws H3 ((e1.trans e2).back np) ((e1.trans e2).trans e3) hp h3
theorem ep_un {r : V → Hp → VK → Prop} (ha : EP K B H0 Z ta E x) (hr : R1d K r x z) : EP K B H0 Z (tUn r ta) E z := fun σ H e Q q =>
  ha σ H e _ fun vx H1 e1 h1 => hr vx H1 h1 Q fun v H3 e3 h3 => q v H3 (e1.trans e3) h3
theorem ea_nil : EA K B H0 Z tNil E [] := fun σ H _ Q q => q [] H (Ex.refl H) .nil
theorem ea_cons {tr : TA} (h : EP K B H0 Z te E d) (hr : EA K B H0 Z tr E l) : EA K B H0 Z (tCons te tr) E (d :: l) := fun σ H e Q q =>
  h σ H e _ fun v H1 e1 h1 => hr σ H1 (e.ext e1) _ fun vs H2 e2 h2 => q _ H2 (e1.trans e2) (.cons (h1.mono e2) h2)
theorem ep_cb {r : List V → Hp → VK → Prop} (h : EA K B H0 Z ea E l) (hr : RCd K r l z) : EP K B H0 Z (tCB r ea) E z := fun σ H e Q q =>
  h σ H e _ fun vs H1 e1 h1 => hr vs H1 h1 Q fun v H2 e2 h2 => q v H2 (e1.trans e2) h2
theorem ef_cb {r : List V → Hp → VK → Prop} (h : EA K B H0 Z ea E l) (hr : RCf K r l m) : EF K B H0 Z (tCB r ea) E m := fun σ H e Q q =>
  h σ H e _ fun vs H1 e1 h1 => hr vs H1 h1 Q fun p ws H2 np e2 hp h2 => q p ws H2 (e1.back np) (e1.trans e2) hp h2
theorem ep_tup (h : EA K B H0 Z ea E l) (hl : l.length ≤ 100000 := by simp) : EP K B H0 Z (tTup ea) E (.tup l) := fun σ H e Q q =>
  h σ H e _ fun vs H1 e1 h1 => ⟨by rw [h1.length, sizeLine_eq]; omega, fun p np => q _ _ (e1.trans (Ex.new np)) (.tup (SqT.of upd_same) (h1.mono (Ex.new np)))⟩
theorem ef_lst (h : EA K B H0 Z ea E l) (hl : l.length ≤ 100000 := by simp) : EF K B H0 Z (tLst ea) E l := fun σ H e Q q =>
  h σ H e _ fun vs H1 e1 h1 => ⟨by rw [h1.length, sizeLine_eq]; omega, fun p np => q p vs _ (e1.back np) (e1.trans (Ex.new np)) upd_same (h1.mono (Ex.new np))⟩

/-! ### tests -/
theorem et_test (h : EP K B H0 Z te E (.bl b)) : ET K B H0 Z (tTest te) E b := fun σ H e Q q => h σ H e _ fun v H1 e1 h1 => by
  cases h1
  exact ⟨b, rfl, q H1 e1⟩
theorem et_B (h : EP K B H0 Z te E (.bl b)) : ET K B H0 Z (tB te) E b := fun σ H e Q q => h σ H e _ fun v H1 e1 h1 => by
  cases h1
  exact ⟨b, rfl, q H1 e1⟩
theorem et_is (h : ET K B H0 Z t E b) (e : b = c) : ET K B H0 Z t E c := e ▸ h
theorem et_and (h1 : ET K B H0 Z t E b) (h2 : b = true → ET K B H0 Z u E c) : ET K B H0 Z (tAnd t u) E (b && c) := fun σ H e Q q => h1 σ H e _ fun H1 e1 => by
  cases b with
  | true => exact h2 rfl σ H1 (e.ext e1) Q fun H2 e2 => q H2 (e1.trans e2)
  | false => exact q H1 e1
theorem et_or (h1 : ET K B H0 Z t E b) (h2 : b = false → ET K B H0 Z u E c) : ET K B H0 Z (tOr t u) E (b || c) := fun σ H e Q q => h1 σ H e _ fun H1 e1 => by
  cases b with
  | true => exact q H1 e1
  | false => exact h2 rfl σ H1 (e.ext e1) Q fun H2 e2 => q H2 (e1.trans e2)
theorem et_not (h1 : ET K B H0 Z t E b) : ET K B H0 Z (tNot t) E (!b) := fun σ H e Q q => h1 σ H e _ fun H1 e1 => q H1 e1
theorem et_yes : ET K B H0 Z tYes E true := fun σ H _ Q q => q H (Ex.refl H)
theorem ep_andV (h1 : EP K B H0 Z ta E (.bl b)) (h2 : b = true → EP K B H0 Z tb E (.bl c)) : EP K B H0 Z (tAndV ta tb) E (.bl (b && c)) := fun σ H e Q q => h1 σ H e _ fun v H1 e1 h1 => by
  cases h1
  refine ⟨b, rfl, ?_⟩
  cases b with
  | true => exact h2 rfl σ H1 (e.ext e1) Q fun v H2 e2 h => q v H2 (e1.trans e2) h
  | false => exact q _ H1 e1 (.bl _)
theorem ep_orV (h1 : EP K B H0 Z ta E (.bl b)) (h2 : b = false → EP K B H0 Z tb E (.bl c)) : EP K B H0 Z (tOrV ta tb) E (.bl (b || c)) := fun σ H e Q q => h1 σ H e _ fun v H1 e1 h1 => by
  cases h1
  refine ⟨b, rfl, ?_⟩
  cases b with
  | true => exact q _ H1 e1 (.bl _)
  | false => exact h2 rfl σ H1 (e.ext e1) Q fun v H2 e2 h => q v H2 (e1.trans e2) h
theorem ep_notV (h1 : EP K B H0 Z ta E (.bl b)) : EP K B H0 Z (tNotV ta) E (.bl (!b)) := fun σ H e Q q => h1 σ H e _ fun v H1 e1 h1 => by
  cases h1
  exact ⟨b, rfl, q _ H1 e1 (.bl _)⟩
theorem ep_if (h : ET K B H0 Z t E b) (h1 : b = true → EP K B H0 Z ta E d) (h2 : b = false → EP K B H0 Z tb E d) : EP K B H0 Z (tIf t ta tb) E d := fun σ H e Q q => h σ H e _ fun H1 e1 => by
  cases b with
  | true => exact h1 rfl σ H1 (e.ext e1) Q fun v H2 e2 h => q v H2 (e1.trans e2) h
  | false => exact h2 rfl σ H1 (e.ext e1) Q fun v H2 e2 h => q v H2 (e1.trans e2) h

/-! ### statements -/
variable {D : Ends} {tx ty tz : TS}
theorem sd_seq (h : SD K B H0 Z tx { D with nx := tz D } E) : SD K B H0 Z (tSeq tx tz) D E := h
theorem sd_go {D' : Ends} (h : SD K B H0 Z tz D E) : SD K B H0 Z tNext { D' with nx := tz D } E := h
theorem sd_nx {E' : List Slot} {bk ct : L2.St → Hp → Prop} {rt : VK} (h : E = E') : SD K B H0 Z tNext { nx := fun σ H => Env K B H0 Z E' σ H, rt := rt, bk := bk, ct := ct } E := fun σ H e => h ▸ e
theorem sd_asg {i : Nat} (h : EP K B H0 Z te E d) (im : d.im = true) (k : SD K B H0 Z tNext D (E.set i (.val d))) : SD K B H0 Z (tAsg te (gName i)) D E := fun σ H e =>
  h σ H e _ fun v H1 e1 h1 => k _ H1 ((e.ext e1).set h1 im)
/-- a new list, to be changed later | never changed -/
theorem sd_asgO {i : Nat} (h : EF K B H0 Z te E l) (im : imAll l = true) (k : ∀ p, SD K B H0 Z tNext D (E.set i (.own p l))) : SD K B H0 Z (tAsg te (gName i)) D E := fun σ H e =>
  h σ H e _ fun p vs H1 np e1 hp h1 => k p _ H1 (e.setO e1 np hp h1 im fun hb => by
    cases q : H0 p with
    | none => rfl
    | some o =>
      have := e.ex p o hb q
      rw [np] at this
      cases this)
theorem sd_asgL {i : Nat} (h : EF K B H0 Z te E l) (im : imAll l = true) (k : SD K B H0 Z tNext D (E.set i (.val (.lst l)))) : SD K B H0 Z (tAsg te (gName i)) D E := fun σ H e =>
  h σ H e _ fun p vs H1 np e1 hp h1 => k _ H1 ((e.ext e1).setC (by
    have hpo : p ∉ ows E := fun m => by
      obtain ⟨xs, q⟩ := e.lsts p m
      rw [np] at q
      cases q
    exact .lst (SqL.of (by rw [hid_at hpo]; exact hp)) (h1.clean (e.ext e1).lsts im)))
theorem sd_drop (h : EP K B H0 Z te E d) (k : SD K B H0 Z tNext D E) : SD K B H0 Z (tDrop te) D E := fun σ H e => h σ H e _ fun v H1 e1 _ => k σ H1 (e.ext e1)
theorem sd_ret (h : EP K B H0 Z te E d) (k : RT K B H0 D d) : SD K B H0 Z (tRet te) D E := fun σ H e => h σ H e _ fun v H1 e1 h1 => k v H1 (e.ext e1).ex h1
theorem sd_retN (k : RT K B H0 D .non) : SD K B H0 Z tRetN D E := fun σ H e => k _ H e.ex .non
/-- a new list is handed back -/
def RTF (K : PySem.W.Frag) (B : List Addr) (H0 : Hp) (D : Ends) (l : List Y.D) : Prop := ∀ p vs H, (p ∉ B → H0 p = none) → (∀ a o, a ∉ B → H0 a = some o → H a = some o) → H p = some (.lst vs) → IsAll K H vs l → D.rt (.ref p) H
theorem sd_retF (h : EF K B H0 Z te E l) (k : RTF K B H0 D l) : SD K B H0 Z (tRet te) D E := fun σ H e => h σ H e _ fun p vs H1 np e1 hp h1 => k p vs H1 (fun hb => by
    cases q : H0 p with
    | none => rfl
    | some o =>
      have := e.ex p o hb q
      rw [np] at this
      cases this) (e.ext e1).ex hp h1
theorem sd_retO {i : Nat} {p : Addr} (h : E[i]? = some (.own p l)) (k : RTF K B H0 D l) : SD K B H0 Z (tRet (tVar i)) D E := fun σ H e => by
  obtain ⟨h1, vs, h2, h3⟩ := e.own i p l h
  exact ⟨_, h1, k p vs H (fun hb => (e.fr i p l h).resolve_left hb) e.ex h2 (h3.mono (hid_le _ _))⟩
theorem sd_if (h : ET K B H0 Z t E b) (h1 : b = true → SD K B H0 Z tx D E) (h2 : b = false → SD K B H0 Z ty D E) : SD K B H0 Z (tIfS t tx ty) D E := fun σ H e => h σ H e _ fun H1 e1 => by
  cases b with
  | true => exact h1 rfl σ H1 (e.ext e1)
  | false => exact h2 rfl σ H1 (e.ext e1)
/-- xs.append(e), xs an owned list -/
theorem sd_app {i : Nat} {p : Addr} (hi : E[i]? = some (.own p l)) (h : EP K B H0 Z te E d) (im : d.im = true) (hz : l.length < 100000) (k : SD K B H0 Z tNext D (E.set i (.own p (l ++ [d])))) :
    SD K B H0 Z (tDrop (tBM K "list" rAppend (tVar i) (tCons te tNil))) D E := fun σ H e => by
  obtain ⟨h1, vs, h2, h3⟩ := e.own i p l hi
  refine ⟨_, h1, .inl ⟨rfl, vs, SqL.of h2⟩, h σ H e _ fun v H1 e1 q => ?_⟩
  have e' := e.ext e1
  obtain ⟨_, ws, g2, g3⟩ := e'.own i p l hi
  have : ws = vs := by
    have := e1 p _ h2
    rw [g2] at this
    injection this with this
    injection this
  subst this
  refine ⟨p, ws, v, rfl, rfl, g2, ?_, k σ _ (e'.chg hi (g3.append (.one (q.clean e'.lsts im))))⟩
  rw [g3.length, sizeLine_eq]
  omega

end
end Y
set_option Elab.async false
set_option linter.all false
set_option autoImplicit false
set_option maxRecDepth 100000
/-! Loops and comprehensions, as data. -/
namespace Y
open PySem L2
section
variable {K : PySem.W.Frag} {B : List Addr} {H0 : Hp} {Z : Hp → Prop} {E : List Slot} {ta tb tc te : TE} {t u : TT} {ea : TA} {x y z d : D} {l m : List D} {b c : Bool}
/-- an expression whose value stands apart from what may change -/
def EC (K : PySem.W.Frag) (B : List Addr) (H0 : Hp) (Z : Hp → Prop) (te : TE) (E : List Slot) (d : D) : Prop :=
  ∀ σ H, Env K B H0 Z E σ H → ∀ Q : VK, (∀ v H', Ex H H' → Is K (hid (ows E) H') v d → Q v H') → te σ H Q
theorem ec_im (h : EP K B H0 Z te E d) (im : d.im = true) : EC K B H0 Z te E d := fun σ H e Q q => h σ H e Q fun v H' x h1 => q v H' x (h1.clean (e.ext x).lsts im)
theorem ec_var {i : Nat} (h : E[i]? = some (.val d)) : EC K B H0 Z (tVar i) E d := fun σ H e Q q => by
  obtain ⟨v, h1, h2⟩ := e.val i d h
  exact ⟨v, h1, q v H (Ex.refl H) h2⟩
theorem ec_new (h : EF K B H0 Z te E l) (im : imAll l = true) : EC K B H0 Z te E (.lst l) := fun σ H e Q q => h σ H e Q fun p vs H1 np e1 hp h1 => q _ H1 e1 (by
  have hpo : p ∉ ows E := fun m => by
    obtain ⟨xs, w⟩ := e.lsts p m
    rw [np] at w
    cases w
  exact .lst (SqL.of (by rw [hid_at hpo]; exact hp)) (h1.clean (e.ext e1).lsts im))

theorem map_at {α : Type} {c : α → Y.D} {ts : List α} {i : Nat} {d : Y.D} (h : (ts.map c)[i]? = some d) : ∃ a, ts[i]? = some a ∧ d = c a := by
  rw [List.getElem?_map] at h
  cases e : ts[i]? with
  | none => rw [e] at h; cases h
  | some a => rw [e] at h; exact ⟨a, rfl, (Option.some.inj h).symm⟩
variable {D : Ends} {tu : TS}
/-- the ends of a loop's body: the next turn's state -/
def LE (K : PySem.W.Frag) (B : List Addr) (H0 : Hp) (Z : Hp → Prop) (D : Ends) (E' : List Slot) : Ends :=
  { nx := fun σ H => Env K B H0 Z E' σ H, rt := D.rt, bk := D.nx, ct := fun σ H => Env K B H0 Z E' σ H }
theorem sd_le {E' : List Slot} (h : E = E') : SD K B H0 Z tNext (LE K B H0 Z D E') E := fun σ H e => h ▸ e
theorem sd_ct {E' : List Slot} (h : E = E') : SD K B H0 Z tCont (LE K B H0 Z D E') E := fun σ H e => h ▸ e
theorem sd_forL {α : Type} {j : Nat} (c : α → Y.D) {ts : List α} (h : EC K B H0 Z te E (.lst (ts.map c))) (Ei : Nat → List Slot) (h0 : E = Ei 0)
    (hs : ∀ (Z' : Hp → Prop) i a, ts[i]? = some a → SD K B H0 Z' tu (LE K B H0 Z' D (Ei (i + 1))) ((Ei i).set j (.val (c a))))
    (hd : SD K B H0 Z tNext D (Ei ts.length)) : SD K B H0 Z (tFor (iList K te) (gName j) tu) D E := fun σ H e =>
  h σ H e _ fun v H1 e1 h1 => by
    have e' := e.ext e1
    cases h1 with
    | lst hq ht =>
      rename_i a xs
      refine ⟨a, rfl, ⟨xs, sqL_ex (hid_le _ _) hq⟩, ?_⟩
      have hl : xs.length = ts.length := by rw [ht.length, List.length_map]
      refine for_list (xs := xs) (fun i σ' H' => Env K B H0 (fun H => Z H ∧ SqL K H a xs ∧ IsAll K H xs (ts.map c)) (Ei i) σ' H') ?_ (fun i σ' H' _ p => sqL_ex (hid_le _ _) p.pin.2.1) ?_ ?_
      · rw [← h0]
        exact ⟨e'.ex, e'.inj, e'.fr, e'.len, e'.val, e'.own, ⟨e'.pin, hq, ht⟩, fun x q => ⟨e.zm x q.1, sqL_ex x q.2.1, q.2.2.mono x⟩⟩
      · intro i x σ' H' hx p
        obtain ⟨d, hd1, hd2⟩ := p.pin.2.2.get hx
        obtain ⟨r, hr, rfl⟩ := map_at hd1
        exact hs _ i r hr _ _ (p.setC hd2)
      · intro σ' H' p
        rw [hl] at p
        exact hd _ _ (p.drop e.zm)
theorem sd_forT {α : Type} {j : Nat} (c : α → Y.D) {ts : List α} (h : EC K B H0 Z te E (.tup (ts.map c))) (Ei : Nat → List Slot) (h0 : E = Ei 0)
    (hs : ∀ (Z' : Hp → Prop) i a, ts[i]? = some a → SD K B H0 Z' tu (LE K B H0 Z' D (Ei (i + 1))) ((Ei i).set j (.val (c a))))
    (hd : SD K B H0 Z tNext D (Ei ts.length)) : SD K B H0 Z (tFor (iTup K te) (gName j) tu) D E := fun σ H e =>
  h σ H e _ fun v H1 e1 h1 => by
    have e' := e.ext e1
    cases h1 with
    | tup hq ht =>
      rename_i a xs
      refine ⟨a, rfl, ⟨xs, sqT_ex (hid_le _ _) hq⟩, ?_⟩
      have hl : xs.length = ts.length := by rw [ht.length, List.length_map]
      refine for_tup (xs := xs) (fun i σ' H' => Env K B H0 (fun H => Z H ∧ SqT K H a xs ∧ IsAll K H xs (ts.map c)) (Ei i) σ' H') ?_ (fun i σ' H' _ p => sqT_ex (hid_le _ _) p.pin.2.1) ?_ ?_
      · rw [← h0]
        exact ⟨e'.ex, e'.inj, e'.fr, e'.len, e'.val, e'.own, ⟨e'.pin, hq, ht⟩, fun x q => ⟨e.zm x q.1, sqT_ex x q.2.1, q.2.2.mono x⟩⟩
      · intro i x σ' H' hx p
        obtain ⟨d, hd1, hd2⟩ := p.pin.2.2.get hx
        obtain ⟨r, hr, rfl⟩ := map_at hd1
        exact hs _ i r hr _ _ (p.setC hd2)
      · intro σ' H' p
        rw [hl] at p
        exact hd _ _ (p.drop e.zm)
theorem sd_forR {j : Nat} {n : Int} (h : EA K B H0 Z ea E [.int n]) (hn : 0 ≤ n ∧ n ≤ 100000) (Ei : Nat → List Slot) (h0 : E = Ei 0)
    (hs : ∀ (i : Nat), (i : Int) < n → SD K B H0 Z tu (LE K B H0 Z D (Ei (i + 1))) ((Ei i).set j (.val (.int i))))
    (hd : SD K B H0 Z tNext D (Ei n.toNat)) : SD K B H0 Z (tFor (iRng1 ea) (gName j) tu) D E := fun σ H e =>
  h σ H e _ fun vs H1 e1 h1 => by
    have e' := e.ext e1
    have : vs = [.int n] := by
      cases h1 with
      | cons a t => cases a; cases t; rfl
    subst this
    refine ⟨n, rfl, by omega, by omega, for_range (lo := 0) (n := n.toNat) (fun i σ' H' => Env K B H0 Z (Ei i) σ' H') (h0 ▸ e') (fun i σ' H' hi p => ?_) (fun σ' H' p => hd _ _ p)⟩
    have e0 : (0 : Int) + (i : Int) = (i : Int) := Int.zero_add _
    show tu _ (σ'.set j (some (.int ((0 : Int) + (i : Int))))) H'
    rw [e0]
    exact hs i (by omega) _ _ (p.set (.int _) rfl)
theorem sd_forR2 {j : Nat} {lo n : Int} (h : EA K B H0 Z ea E [.int lo, .int n]) (hn : -100000 ≤ lo ∧ lo ≤ 100000 ∧ -100000 ≤ n ∧ n ≤ 100000) (Ei : Nat → List Slot) (h0 : E = Ei 0)
    (hs : ∀ (i : Nat), lo + (i : Int) < n → SD K B H0 Z tu (LE K B H0 Z D (Ei (i + 1))) ((Ei i).set j (.val (.int (lo + i)))))
    (hd : SD K B H0 Z tNext D (Ei (n - lo).toNat)) : SD K B H0 Z (tFor (iRng2 ea) (gName j) tu) D E := fun σ H e =>
  h σ H e _ fun vs H1 e1 h1 => by
    have e' := e.ext e1
    have : vs = [.int lo, .int n] := by
      cases h1 with
      | cons a t =>
        cases a
        cases t with
        | cons a t => cases a; cases t; rfl
    subst this
    exact ⟨lo, n, rfl, ⟨by omega, by omega, by omega, by omega⟩, for_range (lo := lo) (n := (n - lo).toNat) (fun i σ' H' => Env K B H0 Z (Ei i) σ' H') (h0 ▸ e') (fun i σ' H' hi p => hs i (by omega) _ _ (p.set (.int _) rfl)) (fun σ' H' p => hd _ _ p)⟩

/-! ### comprehensions -/
theorem Env.setNo {σ : L2.St} {H : Hp} (e : Env K B H0 Z E σ H) (i : Nat) : Env K B H0 Z (E.set i .no) (σ.set i none) H := by
  have sb : Ex (hid (ows E) H) (hid (ows (E.set i .no)) H) := hid_sub (ows_sub fun p l z => by cases z)
  have old : ∀ {j : Nat} {s : Slot}, (E.set i .no)[j]? = some s → s ≠ .no → i ≠ j ∧ E[j]? = some s := fun {j s} q hs => by
    rcases set_get q with ⟨_, z, _⟩ | z
    · exact absurd z.symm hs
    · exact z
  refine ⟨e.ex, fun a b p l m h1 h2 => e.inj a b p l m (old h1 (by simp)).2 (old h2 (by simp)).2, fun a p l h1 => e.fr a p l (old h1 (by simp)).2, by simp [e.len], fun j d' q => ?_, fun j p l q => ?_, e.zm sb e.pin, e.zm⟩
  · obtain ⟨hij, q'⟩ := old q (by simp)
    obtain ⟨w, q1, q2⟩ := e.val j d' q'
    exact ⟨w, by rw [List.getElem?_set_ne hij]; exact q1, q2.mono sb⟩
  · obtain ⟨hij, q'⟩ := old q (by simp)
    obtain ⟨q1, vs, q2, q3⟩ := e.own j p l q'
    exact ⟨by rw [List.getElem?_set_ne hij]; exact q1, vs, q2, q3.mono sb⟩
theorem wipe1 (σ : L2.St) (j : Nat) (x : Option V) : wipe ((wipe σ [j]).set j x) [j] = wipe σ [j] := by
  show ((σ.set j none).set j x).set j none = σ.set j none
  rw [List.set_set, List.set_set]
/-- what a comprehension has made so far -/
structure Lcw (K : PySem.W.Frag) (Hb : Hp) (p : Addr) (l : List Y.D) (H' : Hp) : Prop where
  fr : Hb p = none
  ex : Ex Hb H'
  at_ : ∃ acc, H' p = some (.lst acc) ∧ IsAll K (hid [p] H') acc l
theorem lcw_turn {Hb : Hp} {p : Addr} {l : List Y.D} {H' : Hp} {σ2 : L2.St} {c : Bool} {d : Y.D} (w : Lcw K Hb p l H') (hz : l.length < 100000) (im : c = true → d.im = true)
    (ht : ∀ H3, Ex Hb H3 → ∀ Q : Bool → Hp → Prop, (∀ H', Ex H3 H' → Q c H') → t σ2 H3 Q) (he : c = true → ∀ H3, Ex Hb H3 → ∀ Q : VK, (∀ v H', Ex H3 H' → Is K H' v d → Q v H') → te σ2 H3 Q) (N : Hp → Prop)
    (hn : ∀ H4, Lcw K Hb p (if c = true then l ++ [d] else l) H4 → N H4) :
    t σ2 H' fun b H3 => if b = true then te σ2 H3 fun y H4 => ∃ acc, H4 p = some (.lst acc) ∧ acc.length < sizeLine ∧ N (upd H4 p (.lst (acc ++ [y]))) else N H3 := by
  refine ht H' w.ex _ fun H3 e3 => ?_
  obtain ⟨acc, w1, w2⟩ := w.at_
  cases c with
  | true =>
    show te σ2 H3 _
    refine he rfl H3 (w.ex.trans e3) _ fun y H4 e4 hy => ⟨acc, e4 _ _ (e3 _ _ w1), by rw [w2.length, sizeLine_eq]; omega, hn _ ⟨w.fr, fun a o q => ?_, acc ++ [y], upd_same, ?_⟩⟩
    · rw [upd_ne (ne_of_none q w.fr)]
      exact e4 _ _ (e3 _ _ (w.ex _ _ q))
    · have e5 : Ex (hid [p] H4) (hid [p] (upd H4 p (.lst (acc ++ [y])))) := fun a o q => by
        obtain ⟨q1, q2⟩ := hid_some q
        rw [hid_at q1, upd_ne (by simpa using q1)]
        exact q2
      refine ((w2.mono (hid_ex (e3.trans e4))).mono e5).append (.one ((hy.clean (fun a ha => ?_) (im rfl)).mono e5))
      have : a = p := by simpa using ha
      exact ⟨acc, by rw [this]; exact e4 _ _ (e3 _ _ w1)⟩
  | false =>
    show N H3
    exact hn _ ⟨w.fr, w.ex.trans e3, acc, e3 _ _ w1, w2.mono (hid_ex e3)⟩
theorem take_step {α : Type} {l : List α} {i : Nat} {d : α} (h : l[i]? = some d) : l.take (i + 1) = l.take i ++ [d] := by
  rw [List.take_add_one, h]
  rfl
theorem fm_step {α : Type} {l : List α} {i : Nat} {d : α} (f : α → Bool) (g : α → Y.D) (h : l[i]? = some d) :
    ((l.take (i + 1)).filter f).map g = if f d = true then ((l.take i).filter f).map g ++ [g d] else ((l.take i).filter f).map g := by
  rw [take_step h, List.filter_append, List.map_append]
  cases hf : f d <;> simp [hf]
theorem fm_len {α : Type} {l : List α} {i : Nat} (f : α → Bool) (g : α → Y.D) : (((l.take i).filter f).map g).length ≤ l.length := by
  rw [List.length_map]
  have h1 := List.length_filter_le f (l.take i)
  have h2 : (l.take i).length ≤ l.length := by rw [List.length_take]; omega
  omega
theorem ef_lcL {α : Type} {j : Nat} (c : α → Y.D) {ts : List α} (f : α → Bool) (g : α → Y.D) (h : EP K B H0 Z tc E (.lst (ts.map c))) (imc : ∀ a ∈ ts, (c a).im = true) (hz : ts.length < 100000)
    (ht : ∀ a ∈ ts, ET K B H0 Z t ((E.set j .no).set j (.val (c a))) (f a)) (he : ∀ a ∈ ts, f a = true → EP K B H0 Z te ((E.set j .no).set j (.val (c a))) (g a)) (im : ∀ a ∈ ts, f a = true → (g a).im = true) :
    EF K B H0 Z (tLc (iList K tc) (gName j) t te [j]) E ((ts.filter f).map g) := fun σ H e Q q =>
  h σ H e _ fun v H1 e1 h1 => by
    have e' := e.ext e1
    cases h1 with
    | lst hq ha =>
      rename_i r xs
      have hl : xs.length = ts.length := by rw [ha.length, List.length_map]
      refine ⟨r, rfl, ⟨xs, hq⟩, fun p np => ?_⟩
      refine lc_list (xs := xs) (fun i H' => Lcw K H1 p (((ts.take i).filter f).map g) H') ⟨np, Ex.new np, [], upd_same, by simpa using IsAll.nil⟩ (fun i H' _ w => sqL_ex w.ex hq) (fun i x H' hx w => ⟨wipe1 σ j _, ?_⟩) (fun H' w => ?_)
      · obtain ⟨d, hd1, hd2⟩ := ha.get hx
        obtain ⟨a, ha1, rfl⟩ := map_at hd1
        have hdm : a ∈ ts := List.mem_of_getElem? ha1
        have eb : ∀ H3, Ex H1 H3 → Env K B H0 Z ((E.set j .no).set j (.val (c a))) ((wipe σ [j]).set j (some x)) H3 := fun H3 x3 => ((e'.setNo j).set hd2 (imc a hdm)).ext x3
        refine lcw_turn w (Nat.lt_of_le_of_lt (fm_len f g) hz) (im a hdm) (fun H3 x3 => ht a hdm _ _ (eb H3 x3)) (fun hf H3 x3 => he a hdm hf _ _ (eb H3 x3)) _ fun H4 w4 => ?_
        rw [fm_step f g ha1]
        exact w4
      · obtain ⟨acc, w1, w2⟩ := w.at_
        rw [hl, List.take_length] at w2
        exact q p acc H' (e1.back np) (e1.trans w.ex) w1 (w2.mono (hid_le _ _))
theorem ef_lcT {α : Type} {j : Nat} (c : α → Y.D) {ts : List α} (f : α → Bool) (g : α → Y.D) (h : EP K B H0 Z tc E (.tup (ts.map c))) (imc : ∀ a ∈ ts, (c a).im = true) (hz : ts.length < 100000)
    (ht : ∀ a ∈ ts, ET K B H0 Z t ((E.set j .no).set j (.val (c a))) (f a)) (he : ∀ a ∈ ts, f a = true → EP K B H0 Z te ((E.set j .no).set j (.val (c a))) (g a)) (im : ∀ a ∈ ts, f a = true → (g a).im = true) :
    EF K B H0 Z (tLc (iTup K tc) (gName j) t te [j]) E ((ts.filter f).map g) := fun σ H e Q q =>
  h σ H e _ fun v H1 e1 h1 => by
    have e' := e.ext e1
    cases h1 with
    | tup hq ha =>
      rename_i r xs
      have hl : xs.length = ts.length := by rw [ha.length, List.length_map]
      refine ⟨r, rfl, ⟨xs, hq⟩, fun p np => ?_⟩
      refine lc_tup (xs := xs) (fun i H' => Lcw K H1 p (((ts.take i).filter f).map g) H') ⟨np, Ex.new np, [], upd_same, by simpa using IsAll.nil⟩ (fun i H' _ w => sqT_ex w.ex hq) (fun i x H' hx w => ⟨wipe1 σ j _, ?_⟩) (fun H' w => ?_)
      · obtain ⟨d, hd1, hd2⟩ := ha.get hx
        obtain ⟨a, ha1, rfl⟩ := map_at hd1
        have hdm : a ∈ ts := List.mem_of_getElem? ha1
        have eb : ∀ H3, Ex H1 H3 → Env K B H0 Z ((E.set j .no).set j (.val (c a))) ((wipe σ [j]).set j (some x)) H3 := fun H3 x3 => ((e'.setNo j).set hd2 (imc a hdm)).ext x3
        refine lcw_turn w (Nat.lt_of_le_of_lt (fm_len f g) hz) (im a hdm) (fun H3 x3 => ht a hdm _ _ (eb H3 x3)) (fun hf H3 x3 => he a hdm hf _ _ (eb H3 x3)) _ fun H4 w4 => ?_
        rw [fm_step f g ha1]
        exact w4
      · obtain ⟨acc, w1, w2⟩ := w.at_
        rw [hl, List.take_length] at w2
        exact q p acc H' (e1.back np) (e1.trans w.ex) w1 (w2.mono (hid_le _ _))
theorem range_at {n i : Nat} (h : i < n) : (List.range n)[i]? = some i := List.getElem?_range h
theorem ef_lcR {j : Nat} {n : Int} (f : Nat → Bool) (g : Nat → Y.D) (h : EA K B H0 Z ea E [.int n]) (hn : 0 ≤ n ∧ n < 100000)
    (ht : ∀ i : Nat, (i : Int) < n → ET K B H0 Z t ((E.set j .no).set j (.val (.int i))) (f i)) (he : ∀ i : Nat, (i : Int) < n → f i = true → EP K B H0 Z te ((E.set j .no).set j (.val (.int i))) (g i)) (im : ∀ i : Nat, (i : Int) < n → f i = true → (g i).im = true) :
    EF K B H0 Z (tLc (iRng1 ea) (gName j) t te [j]) E (((List.range n.toNat).filter f).map g) := fun σ H e Q q =>
  h σ H e _ fun vs H1 e1 h1 => by
    have e' := e.ext e1
    have : vs = [.int n] := by
      cases h1 with
      | cons a t => cases a; cases t; rfl
    subst this
    refine ⟨n, rfl, by omega, by omega, fun p np => ?_⟩
    refine lc_range (lo := 0) (n := n.toNat) (fun i H' => Lcw K H1 p ((((List.range n.toNat).take i).filter f).map g) H') ⟨np, Ex.new np, [], upd_same, by simpa using IsAll.nil⟩ (fun i H' hi w => ⟨wipe1 σ j _, ?_⟩) (fun H' w => ?_)
    · have hd1 := range_at hi
      have e0 : (0 : Int) + (i : Int) = (i : Int) := Int.zero_add _
      rw [e0]
      have hin : (i : Int) < n := by omega
      have eb : ∀ H3, Ex H1 H3 → Env K B H0 Z ((E.set j .no).set j (.val (.int i))) ((wipe σ [j]).set j (some (.int i))) H3 := fun H3 x3 => ((e'.setNo j).set (.int _) rfl).ext x3
      refine lcw_turn w (Nat.lt_of_le_of_lt (fm_len f g) (by rw [List.length_range]; omega)) (im i hin) (fun H3 x3 => ht i hin _ _ (eb H3 x3)) (fun hf H3 x3 => he i hin hf _ _ (eb H3 x3)) _ fun H4 w4 => ?_
      rw [fm_step f g hd1]
      exact w4
    · obtain ⟨acc, w1, w2⟩ := w.at_
      rw [List.take_of_length_le (by rw [List.length_range]; exact Nat.le_refl _)] at w2
      exact q p acc H' (e1.back np) (e1.trans w.ex) w1 (w2.mono (hid_le _ _))
theorem ef_lcR2 {j : Nat} {lo n : Int} (f : Nat → Bool) (g : Nat → Y.D) (h : EA K B H0 Z ea E [.int lo, .int n]) (hn : -100000 ≤ lo ∧ lo < 100000 ∧ -100000 ≤ n ∧ n < 100000) (hz : n - lo < 100000)
    (ht : ∀ i : Nat, lo + (i : Int) < n → ET K B H0 Z t ((E.set j .no).set j (.val (.int (lo + i)))) (f i)) (he : ∀ i : Nat, lo + (i : Int) < n → f i = true → EP K B H0 Z te ((E.set j .no).set j (.val (.int (lo + i)))) (g i)) (im : ∀ i : Nat, lo + (i : Int) < n → f i = true → (g i).im = true) :
    EF K B H0 Z (tLc (iRng2 ea) (gName j) t te [j]) E (((List.range (n - lo).toNat).filter f).map g) := fun σ H e Q q =>
  h σ H e _ fun vs H1 e1 h1 => by
    have e' := e.ext e1
    have : vs = [.int lo, .int n] := by
      cases h1 with
      | cons a t =>
        cases a
        cases t with
        | cons a t => cases a; cases t; rfl
    subst this
    refine ⟨lo, n, rfl, ⟨by omega, by omega, by omega, by omega⟩, fun p np => ?_⟩
    refine lc_range (lo := lo) (n := (n - lo).toNat) (fun i H' => Lcw K H1 p ((((List.range (n - lo).toNat).take i).filter f).map g) H') ⟨np, Ex.new np, [], upd_same, by simpa using IsAll.nil⟩ (fun i H' hi w => ⟨wipe1 σ j _, ?_⟩) (fun H' w => ?_)
    · have hd1 := range_at hi
      have hin : lo + (i : Int) < n := by omega
      have eb : ∀ H3, Ex H1 H3 → Env K B H0 Z ((E.set j .no).set j (.val (.int (lo + i)))) ((wipe σ [j]).set j (some (.int (lo + i)))) H3 := fun H3 x3 => ((e'.setNo j).set (.int _) rfl).ext x3
      refine lcw_turn w (Nat.lt_of_le_of_lt (fm_len f g) (by rw [List.length_range]; omega)) (im i hin) (fun H3 x3 => ht i hin _ _ (eb H3 x3)) (fun hf H3 x3 => he i hin hf _ _ (eb H3 x3)) _ fun H4 w4 => ?_
      rw [fm_step f g hd1]
      exact w4
    · obtain ⟨acc, w1, w2⟩ := w.at_
      rw [List.take_of_length_le (by rw [List.length_range]; exact Nat.le_refl _)] at w2
      exact q p acc H' (e1.back np) (e1.trans w.ex) w1 (w2.mono (hid_le _ _))
/-! without an if -/
theorem fm_true {α : Type} (l : List α) (g : α → Y.D) : (l.filter fun _ => true).map g = l.map g := by rw [List.filter_eq_self.mpr fun _ _ => rfl]
theorem ef_lcL1 {α : Type} {j : Nat} (c : α → Y.D) {ts : List α} (g : α → Y.D) (h : EP K B H0 Z tc E (.lst (ts.map c))) (imc : ∀ a ∈ ts, (c a).im = true) (hz : ts.length < 100000)
    (he : ∀ a ∈ ts, EP K B H0 Z te ((E.set j .no).set j (.val (c a))) (g a)) (im : ∀ a ∈ ts, (g a).im = true) : EF K B H0 Z (tLc (iList K tc) (gName j) tYes te [j]) E (ts.map g) := by
  rw [← fm_true]
  exact ef_lcL c (fun _ => true) g h imc hz (fun _ _ => et_yes) (fun a ha _ => he a ha) (fun a ha _ => im a ha)
theorem ef_lcT1 {α : Type} {j : Nat} (c : α → Y.D) {ts : List α} (g : α → Y.D) (h : EP K B H0 Z tc E (.tup (ts.map c))) (imc : ∀ a ∈ ts, (c a).im = true) (hz : ts.length < 100000)
    (he : ∀ a ∈ ts, EP K B H0 Z te ((E.set j .no).set j (.val (c a))) (g a)) (im : ∀ a ∈ ts, (g a).im = true) : EF K B H0 Z (tLc (iTup K tc) (gName j) tYes te [j]) E (ts.map g) := by
  rw [← fm_true]
  exact ef_lcT c (fun _ => true) g h imc hz (fun _ _ => et_yes) (fun a ha _ => he a ha) (fun a ha _ => im a ha)
theorem ef_lcR1 {j : Nat} {n : Int} (g : Nat → Y.D) (h : EA K B H0 Z ea E [.int n]) (hn : 0 ≤ n ∧ n < 100000)
    (he : ∀ i : Nat, (i : Int) < n → EP K B H0 Z te ((E.set j .no).set j (.val (.int i))) (g i)) (im : ∀ i : Nat, (i : Int) < n → (g i).im = true) : EF K B H0 Z (tLc (iRng1 ea) (gName j) tYes te [j]) E ((List.range n.toNat).map g) := by
  rw [← fm_true]
  exact ef_lcR (fun _ => true) g h hn (fun _ _ => et_yes) (fun a ha _ => he a ha) (fun a ha _ => im a ha)
theorem ef_lcR21 {j : Nat} {lo n : Int} (g : Nat → Y.D) (h : EA K B H0 Z ea E [.int lo, .int n]) (hn : -100000 ≤ lo ∧ lo < 100000 ∧ -100000 ≤ n ∧ n < 100000) (hz : n - lo < 100000)
    (he : ∀ i : Nat, lo + (i : Int) < n → EP K B H0 Z te ((E.set j .no).set j (.val (.int (lo + i)))) (g i)) (im : ∀ i : Nat, lo + (i : Int) < n → (g i).im = true) : EF K B H0 Z (tLc (iRng2 ea) (gName j) tYes te [j]) E ((List.range (n - lo).toNat).map g) := by
  rw [← fm_true]
  exact ef_lcR2 (fun _ => true) g h hn hz (fun _ _ => et_yes) (fun a ha _ => he a ha) (fun a ha _ => im a ha)
end
end Y
set_option Elab.async false
set_option linter.all false
set_option autoImplicit false
set_option maxRecDepth 100000
/-! The built-in operations, as data. -/
namespace Y
open PySem L2
section
variable {K : PySem.W.Frag} {B : List Addr} {H0 : Hp} {Z : Hp → Prop} {E : List Slot} {ta tb tc te : TE} {t u : TT} {ea : TA} {x y z d : D} {l m : List D} {b c : Bool}
/-! ### ints -/
theorem r2_int {g : Int → Int → Int} {i j : Int} : R2d K (rI0 fun i j => .int (g i j)) (.int i) (.int j) (.int (g i j)) := fun vx vy H hx hy Q q => by
  cases hx; cases hy
  exact ⟨i, j, rfl, rfl, q _ H (Ex.refl H) (.int _)⟩
theorem r2_cmp {g : Int → Int → Bool} {i j : Int} : R2d K (rI0 fun i j => .bl (g i j)) (.int i) (.int j) (.bl (g i j)) := fun vx vy H hx hy Q q => by
  cases hx; cases hy
  exact ⟨i, j, rfl, rfl, q _ H (Ex.refl H) (.bl _)⟩
theorem r2_intC {C : Int → Int → Prop} {g : Int → Int → Int} {i j : Int} (hc : C i j) : R2d K (rI C fun i j => .int (g i j)) (.int i) (.int j) (.int (g i j)) := fun vx vy H hx hy Q q => by
  cases hx; cases hy
  exact ⟨i, j, rfl, rfl, hc, q _ H (Ex.refl H) (.int _)⟩
theorem r2_eqI {i j : Int} : R2d K rEq (.int i) (.int j) (.bl (decide (i = j))) := fun vx vy H hx hy Q q => by
  cases hx; cases hy
  refine ⟨rfl, q _ H (Ex.refl H) ?_⟩
  rw [dec_int]
  exact .bl _
theorem r2_neI {i j : Int} : R2d K rNe (.int i) (.int j) (.bl (!decide (i = j))) := fun vx vy H hx hy Q q => by
  cases hx; cases hy
  refine ⟨rfl, q _ H (Ex.refl H) ?_⟩
  rw [dec_int]
  exact .bl _
theorem r2_eqB {i j : Bool} : R2d K rEq (.bl i) (.bl j) (.bl (decide (i = j))) := fun vx vy H hx hy Q q => by
  cases hx; cases hy
  refine ⟨rfl, q _ H (Ex.refl H) ?_⟩
  rw [dec_bl]
  cases i <;> cases j <;> exact .bl _
theorem r2_neB {i j : Bool} : R2d K rNe (.bl i) (.bl j) (.bl (!decide (i = j))) := fun vx vy H hx hy Q q => by
  cases hx; cases hy
  refine ⟨rfl, q _ H (Ex.refl H) ?_⟩
  rw [dec_bl]
  cases i <;> cases j <;> exact .bl _
theorem r2_eqS {i j : Str} : R2d K rEq (.str i) (.str j) (.bl (decide (i = j))) := fun vx vy H hx hy Q q => by
  cases hx; cases hy
  refine ⟨rfl, q _ H (Ex.refl H) ?_⟩
  have e : decide (V.str i = V.str j) = decide (i = j) := by
    by_cases h : i = j
    · subst h; simp
    · have : ¬ V.str i = V.str j := fun z => h (by injection z)
      simp [h, this]
  rw [e]
  exact .bl _
/-! ### data: flat items -/
def D.fl : D → Bool
  | .non => true | .bl _ => true | .int _ => true | .str _ => true | _ => false
def D.v : D → V
  | .bl b => .bl b | .int i => .int i | .str s => .str s | _ => .non
theorem Is.fl {v : V} {H : Hp} (h : Is K H v d) (f : d.fl = true) : v = d.v ∧ flatV v = true := by
  cases h <;> first | exact ⟨rfl, rfl⟩ | cases f
theorem isAll_fl {H : Hp} : ∀ {vs : List V} {l : List D}, IsAll K H vs l → (∀ d ∈ l, d.fl = true) → vs = l.map D.v ∧ vs.all flatV = true
  | _, _, .nil, _ => ⟨rfl, rfl⟩
  | _, _, .cons h t, f => by
    obtain ⟨h1, h2⟩ := h.fl (f _ List.mem_cons_self)
    obtain ⟨t1, t2⟩ := isAll_fl t fun d hd => f d (List.mem_cons_of_mem _ hd)
    exact ⟨by rw [h1, t1]; rfl, by rw [List.all_cons, h2, t2]; rfl⟩
theorem ints_fl (ns : List Int) : ∀ d ∈ ns.map D.int, d.fl = true := fun d hd => by
  obtain ⟨n, _, rfl⟩ := List.mem_map.mp hd
  rfl
theorem inV_ints (i : Int) : ∀ (ns : List Int), inV (.int i) ((ns.map D.int).map D.v) = decide (i ∈ ns)
  | [] => rfl
  | n :: ns => by
    have ih := inV_ints i ns
    show (eqV (.int n) (.int i) || inV (.int i) ((ns.map D.int).map D.v)) = _
    rw [ih]
    have e : eqV (.int n) (.int i) = decide (i = n) := by
      show (n == i) = _
      by_cases h : i = n
      · simp [h]
      · have : ¬ n = i := fun z => h z.symm
        simp [h, this]
    rw [e, Bool.eq_iff_iff]
    simp
theorem r2_in {neg : Bool} (hx : x.fl = true) (hl : ∀ d ∈ l, d.fl = true) (hy : y = .tup l ∨ y = .lst l) : R2d K (rIn K neg) x y (.bl (if neg then !inV x.v (l.map D.v) else inV x.v (l.map D.v))) := fun vx vy H h1 h2 Q q => by
  obtain ⟨e1, f1⟩ := h1.fl hx
  subst e1
  rcases hy with rfl | rfl
  · obtain ⟨a, xs, rfl, hs, ha⟩ := h2.tup_inv
    obtain ⟨e2, f2⟩ := isAll_fl ha hl
    subst e2
    exact ⟨a, _, rfl, .inr hs, f1, f2, q _ H (Ex.refl H) (.bl _)⟩
  · obtain ⟨a, xs, rfl, hs, ha⟩ := h2.lst_inv
    obtain ⟨e2, f2⟩ := isAll_fl ha hl
    subst e2
    exact ⟨a, _, rfl, .inl hs, f1, f2, q _ H (Ex.refl H) (.bl _)⟩
theorem r2_inI {i : Int} {ns : List Int} (hy : y = .tup (ns.map D.int) ∨ y = .lst (ns.map D.int)) : R2d K (rIn K false) (.int i) y (.bl (decide (i ∈ ns))) := by
  have h := r2_in (K := K) (neg := false) (x := .int i) rfl (ints_fl ns) hy
  simp only [Bool.false_eq_true, if_false] at h
  rw [show (D.int i).v = .int i from rfl, inV_ints] at h
  exact h
theorem r2_ninI {i : Int} {ns : List Int} (hy : y = .tup (ns.map D.int) ∨ y = .lst (ns.map D.int)) : R2d K (rIn K true) (.int i) y (.bl (!decide (i ∈ ns))) := by
  have h := r2_in (K := K) (neg := true) (x := .int i) rfl (ints_fl ns) hy
  simp only [if_true] at h
  rw [show (D.int i).v = .int i from rfl, inV_ints] at h
  exact h
/-! ### lists and tuples -/
theorem r2_ixT {i : Int} (h : atI l i = some d) : R2d K (rIxT K) (.tup l) (.int i) d := fun vx vy H hx hy Q q => by
  cases hy
  obtain ⟨a, xs, rfl, hs, ha⟩ := hx.tup_inv
  unfold atI at h
  cases e : ixN l.length i with
  | none => rw [e] at h; cases h
  | some j =>
    rw [e] at h
    obtain ⟨v, h1, h2⟩ := ha.getD h
    refine ⟨a, xs, i, v, rfl, rfl, hs, ?_, q v H (Ex.refl H) h2⟩
    unfold atI
    rw [ha.length, e]
    exact h1
theorem r2_ixL {i : Int} (h : atI l i = some d) : R2d K (rIxL K) (.lst l) (.int i) d := fun vx vy H hx hy Q q => by
  cases hy
  obtain ⟨a, xs, rfl, hs, ha⟩ := hx.lst_inv
  unfold atI at h
  cases e : ixN l.length i with
  | none => rw [e] at h; cases h
  | some j =>
    rw [e] at h
    obtain ⟨v, h1, h2⟩ := ha.getD h
    refine ⟨a, xs, i, v, rfl, rfl, hs, ?_, q v H (Ex.refl H) h2⟩
    unfold atI
    rw [ha.length, e]
    exact h1
theorem isAll_nil {H : Hp} {xs : List V} (h : IsAll K H xs l) : xs = [] ↔ l = [] := by
  cases h <;> simp
theorem r2_catA (hz : l.length + m.length ≤ 100000) : R2d K (rCatA K) (.tup l) (.tup m) (.tup (l ++ m)) := fun vx vy H hx hy Q q => by
  obtain ⟨a, xs, rfl, hs, ha⟩ := hx.tup_inv
  obtain ⟨b, ys, rfl, ht, hb⟩ := hy.tup_inv
  refine ⟨a, b, xs, ys, rfl, rfl, hs, ht, by rw [ha.length, hb.length, sizeLine_eq]; omega, fun e => ?_, fun e1 e2 => ?_, fun e1 e2 p np => ?_⟩
  · have e' := (isAll_nil ha).mp e
    subst e'
    exact q _ H (Ex.refl H) hy
  · have e' := (isAll_nil hb).mp e2
    subst e'
    rw [List.append_nil] at q
    exact q _ H (Ex.refl H) hx
  · exact q _ _ (Ex.new np) (.tup (SqT.of upd_same) ((ha.append hb).mono (Ex.new np)))
/-- a list that is this def's own or new -/
def EL (K : PySem.W.Frag) (B : List Addr) (H0 : Hp) (Z : Hp → Prop) (te : TE) (E : List Slot) (l : List D) : Prop :=
  ∀ σ H, Env K B H0 Z E σ H → ∀ Q : VK, (∀ p vs H', Ex H H' → H' p = some (.lst vs) → IsAll K H' vs l → Q (.ref p) H') → te σ H Q
theorem el_own {i : Nat} {p : Addr} (h : E[i]? = some (.own p l)) : EL K B H0 Z (tVar i) E l := fun σ H e Q q => by
  obtain ⟨h1, vs, h2, h3⟩ := e.own i p l h
  exact ⟨_, h1, q p vs H (Ex.refl H) h2 (h3.mono (hid_le _ _))⟩
theorem el_new (h : EF K B H0 Z te E l) : EL K B H0 Z te E l := fun σ H e Q q => h σ H e Q fun p vs H' _ x h1 h2 => q p vs H' x h1 h2
theorem ef_cat (ha : EL K B H0 Z ta E l) (hb : EL K B H0 Z tb E m) (hz : l.length + m.length ≤ 100000) : EF K B H0 Z (tOp rCat ta tb) E (l ++ m) := fun σ H e Q q =>
  ha σ H e _ fun p vs H1 e1 h1 i1 => hb σ H1 (e.ext e1) _ fun p' ws H2 e2 h2 i2 => ⟨p, p', vs, ws, rfl, rfl, e2 _ _ h1, h2, by rw [i1.length, i2.length, sizeLine_eq]; omega, fun r nr =>
    q r _ _ ((e1.trans e2).back nr) ((e1.trans e2).trans (Ex.new nr)) upd_same (((i1.mono e2).append i2).mono (Ex.new nr))⟩
theorem ef_rep {k : Int} (ha : EL K B H0 Z ta E l) (hb : EP K B H0 Z tb E (.int k)) (hk : 0 ≤ k ∧ k ≤ 1000 ∧ l.length ≤ 100) : EF K B H0 Z (tOp rRep ta tb) E (List.replicate k.toNat l).flatten := fun σ H e Q q =>
  ha σ H e _ fun p vs H1 e1 h1 i1 => hb σ H1 (e.ext e1) _ fun v H2 e2 h2 => by
    cases h2
    refine ⟨p, k, vs, rfl, rfl, e2 _ _ h1, by omega, by omega, ?_, fun r nr => q r _ _ ((e1.trans e2).back nr) ((e1.trans e2).trans (Ex.new nr)) upd_same (IsAll.mono (Ex.new nr) ?_)⟩
    · have : vs.length * k.toNat ≤ 100 * 1000 := Nat.mul_le_mul (by rw [i1.length]; omega) (by omega)
      rw [sizeLine_eq]
      omega
    · have i2 := i1.mono e2
      clear hk
      induction k.toNat with
      | zero => exact .nil
      | succ n ih => exact i2.append ih
/-! ### built-ins called -/
theorem rc_lenT : RCd K (fun xs H Q => ∃ p ys, xs = [.ref p] ∧ (SqL K H p ys ∨ SqT K H p ys) ∧ Q (.int ys.length) H) [.tup l] (.int l.length) := fun vs H h Q q => by
  cases h with
  | cons h t =>
    cases t
    obtain ⟨a, xs, rfl, hs, ha⟩ := h.tup_inv
    refine ⟨a, xs, rfl, .inr hs, q _ H (Ex.refl H) ?_⟩
    rw [ha.length]
    exact .int _
theorem rc_lenL : RCd K (fun xs H Q => ∃ p ys, xs = [.ref p] ∧ (SqL K H p ys ∨ SqT K H p ys) ∧ Q (.int ys.length) H) [.lst l] (.int l.length) := fun vs H h Q q => by
  cases h with
  | cons h t =>
    cases t
    obtain ⟨a, xs, rfl, hs, ha⟩ := h.lst_inv
    refine ⟨a, xs, rfl, .inl hs, q _ H (Ex.refl H) ?_⟩
    rw [ha.length]
    exact .int _
theorem rc_sum {ns : List Int} : RCd K (rSum K) [.lst (ns.map D.int)] (.int ns.sum) := fun vs H h Q q => by
  cases h with
  | cons h t =>
    cases t
    obtain ⟨a, xs, rfl, hs, ha⟩ := h.lst_inv
    rw [ha.ints] at hs
    exact ⟨a, ns, rfl, hs, q _ H (Ex.refl H) (.int _)⟩
theorem isAll_bls {H : Hp} : ∀ {vs : List V} {bs : List Bool}, IsAll K H vs (bs.map D.bl) → vs = bs.map V.bl
  | _, [], .nil => rfl
  | _, n :: ns, .cons h t => by
    cases h
    rw [isAll_bls t]
    rfl
theorem rc_all {bs : List Bool} : RCd K (rAll K) [.lst (bs.map D.bl)] (.bl (bs.all id)) := fun vs H h Q q => by
  cases h with
  | cons h t =>
    cases t
    obtain ⟨a, xs, rfl, hs, ha⟩ := h.lst_inv
    rw [isAll_bls ha] at hs
    exact ⟨a, bs, rfl, hs, q _ H (Ex.refl H) (.bl _)⟩
theorem rc_any {bs : List Bool} : RCd K (rAny K) [.lst (bs.map D.bl)] (.bl (bs.any id)) := fun vs H h Q q => by
  cases h with
  | cons h t =>
    cases t
    obtain ⟨a, xs, rfl, hs, ha⟩ := h.lst_inv
    rw [isAll_bls ha] at hs
    exact ⟨a, bs, rfl, hs, q _ H (Ex.refl H) (.bl _)⟩
theorem rc_tupleL : RCd K (fun xs H Q => ∃ p ys, xs = [.ref p] ∧ ((SqL K H p ys ∧ ∀ l, H l = none → Q (.ref l) (upd H l (.tup ys))) ∨ (SqT K H p ys ∧ Q (.ref p) H))) [.lst l] (.tup l) := fun vs H h Q q => by
  cases h with
  | cons h t =>
    cases t
    obtain ⟨a, xs, rfl, hs, ha⟩ := h.lst_inv
    exact ⟨a, xs, rfl, .inl ⟨hs, fun p np => q _ _ (Ex.new np) (.tup (SqT.of upd_same) (ha.mono (Ex.new np)))⟩⟩
theorem rc_tupleT : RCd K (fun xs H Q => ∃ p ys, xs = [.ref p] ∧ ((SqL K H p ys ∧ ∀ l, H l = none → Q (.ref l) (upd H l (.tup ys))) ∨ (SqT K H p ys ∧ Q (.ref p) H))) [.tup l] (.tup l) := fun vs H h Q q => by
  cases h with
  | cons h t =>
    cases t
    obtain ⟨a, xs, rfl, hs, ha⟩ := id h.tup_inv
    exact ⟨a, xs, rfl, .inr ⟨hs, q _ H (Ex.refl H) h⟩⟩
theorem rf_list (hy : y = .tup l ∨ y = .lst l) : RCf K (fun xs H Q => ∃ p ys, xs = [.ref p] ∧ (SqL K H p ys ∨ SqT K H p ys) ∧ ∀ l, H l = none → Q (.ref l) (upd H l (.lst ys))) [y] l := fun vs H h Q q => by
  cases h with
  | cons h t =>
    cases t
    rcases hy with rfl | rfl
    · obtain ⟨a, xs, rfl, hs, ha⟩ := h.tup_inv
      exact ⟨a, xs, rfl, .inr hs, fun p np => q p xs _ np (Ex.new np) upd_same (ha.mono (Ex.new np))⟩
    · obtain ⟨a, xs, rfl, hs, ha⟩ := h.lst_inv
      exact ⟨a, xs, rfl, .inl hs, fun p np => q p xs _ np (Ex.new np) upd_same (ha.mono (Ex.new np))⟩
theorem rc_intI {i : Int} : RCd K (fun xs H Q => (∃ i, xs = [.int i] ∧ Q (.int i) H) ∨ ∃ k, xs = [.bl k] ∧ Q (.int (if k then 1 else 0)) H) [.int i] (.int i) := fun vs H h Q q => by
  cases h with
  | cons h t =>
    cases t; cases h
    exact .inl ⟨i, rfl, q _ H (Ex.refl H) (.int _)⟩
theorem rc_intB {b : Bool} : RCd K (fun xs H Q => (∃ i, xs = [.int i] ∧ Q (.int i) H) ∨ ∃ k, xs = [.bl k] ∧ Q (.int (if k then 1 else 0)) H) [.bl b] (.int (if b then 1 else 0)) := fun vs H h Q q => by
  cases h with
  | cons h t =>
    cases t; cases h
    exact .inr ⟨b, rfl, q _ H (Ex.refl H) (.int _)⟩
/-- sorted(ints) -/
def srtI (ns : List Int) : List Int := ns.mergeSort fun a b => decide (a ≤ b)
theorem srtI_eq {ns ms : List Int} (h : ms.Perm ns) (p : ms.Pairwise (· ≤ ·)) : ms = srtI ns := by
  have h2 : (srtI ns).Pairwise (· ≤ ·) := (List.pairwise_mergeSort (le := fun a b : Int => decide (a ≤ b)) (fun a b c h1 h2 => by simp at *; omega) (fun a b => by simp; omega) ns).imp fun h => by simpa using h
  have h3 : ms.Perm (srtI ns) := h.trans (List.mergeSort_perm _ _).symm
  exact List.Perm.eq_of_pairwise (fun a b _ _ h1 h2 => Int.le_antisymm h1 h2) p h2 h3
theorem rf_sortedI {ns : List Int} (hy : y = .lst (ns.map D.int)) : RCf K (rSortedI K) [y] ((srtI ns).map D.int) := fun vs H h Q q => by
  subst hy
  cases h with
  | cons h t =>
    cases t
    obtain ⟨a, xs, rfl, hs, ha⟩ := h.lst_inv
    rw [ha.ints] at hs
    refine ⟨a, ns, rfl, hs, fun ms p h1 h2 np => ?_⟩
    rw [srtI_eq h1 h2]
    exact q p _ _ np (Ex.new np) upd_same ((isAll_ints _).mono (Ex.new np))
end
end Y
set_option Elab.async false
set_option linter.all false
set_option autoImplicit false
set_option maxRecDepth 100000
/-! Tuples of things, tuples and lists of such, their order; == and in at depth. -/
namespace Y
open PySem L2
/-- the numbers as ints -/
def zs (l : List Nat) : List Int := l.map fun (n : Nat) => (n : Int)
/-- a tuple of things; several as a tuple, as a list -/
def tD (l : List Nat) : D := .tup ((zs l).map D.int)
def tsD (ls : List (List Nat)) : D := .tup (ls.map tD)
def lsD (ls : List (List Nat)) : D := .lst (ls.map tD)
def isD (l : List Nat) : D := .lst ((zs l).map D.int)
theorem imAll_ints (l : List Int) : imAll (l.map D.int) = true := by
  rw [imAll_iff]
  intro d hd
  obtain ⟨n, _, rfl⟩ := List.mem_map.mp hd
  rfl
theorem imAll_bls (l : List Bool) : imAll (l.map D.bl) = true := by
  rw [imAll_iff]
  intro d hd
  obtain ⟨n, _, rfl⟩ := List.mem_map.mp hd
  rfl
theorem tD_im (l : List Nat) : (tD l).im = true := by
  show imAll _ = true
  exact imAll_ints _
theorem imAll_tD (ls : List (List Nat)) : imAll (ls.map tD) = true := by
  rw [imAll_iff]
  intro d hd
  obtain ⟨l, _, rfl⟩ := List.mem_map.mp hd
  exact tD_im l
theorem tsD_im (ls : List (List Nat)) : (tsD ls).im = true := imAll_tD ls

mutual
def D.py : D → PyData
  | .bl b => .bool b
  | .int i => .int i
  | .str s => .str s
  | .tup l => .tuple (pyAll l)
  | .lst l => .list (pyAll l)
  | _ => .none
def pyAll : List D → List PyData
  | [] => []
  | d :: l => d.py :: pyAll l
end
/-! data without objects, classes, truth values -/
mutual
def D.pl : D → Bool
  | .ins _ _ _ => false
  | .ty _ => false
  | .adr _ => false
  | .bl _ => false
  | .tup l => plAll l
  | .lst l => plAll l
  | _ => true
def plAll : List D → Bool
  | [] => true
  | d :: l => d.pl && plAll l
end
mutual
theorem Is.dp {K : PySem.W.Frag} {H : Hp} : ∀ {v : V} {d : D}, Is K H v d → d.pl = true → Dp K H v d.py
  | _, _, .non, _ => .non
  | _, _, .bl b, _ => .bl b
  | _, _, .int i, _ => .int i
  | _, _, .str x, _ => .str x
  | _, _, .ty n, p => by simp [D.pl] at p
  | _, _, .adr n, p => by simp [D.pl] at p
  | _, _, .tup h t, p => .tup h (IsAll.dp t (by simpa [D.pl] using p))
  | _, _, .lst h t, p => .lst h (IsAll.dp t (by simpa [D.pl] using p))
  | _, _, .ins h n t, p => by simp [D.pl] at p
theorem IsAll.dp {K : PySem.W.Frag} {H : Hp} : ∀ {vs : List V} {l : List D}, IsAll K H vs l → plAll l = true → DpAll K H vs (pyAll l)
  | _, _, .nil, _ => .nil
  | _, _, .cons h t, p => .cons (Is.dp h (by simp [plAll] at p; exact p.1)) (IsAll.dp t (by simp [plAll] at p; exact p.2))
end
mutual
theorem eqv_pl : ∀ (x y : D), x.pl = true → y.pl = true → (PyData.eqv x.py y.py = true ↔ x = y)
  | .non, .non, _, _ => by simp [D.py, PyData.eqv]
  | .int i, .int j, _, _ => by simp [D.py, PyData.eqv]
  | .str i, .str j, _, _ => by simp [D.py, PyData.eqv]
  | .tup l, .tup m, h1, h2 => by
    have := eqvAll_pl l m (by simpa [D.pl] using h1) (by simpa [D.pl] using h2)
    simp [D.py, PyData.eqv, this]
  | .lst l, .lst m, h1, h2 => by
    have := eqvAll_pl l m (by simpa [D.pl] using h1) (by simpa [D.pl] using h2)
    simp [D.py, PyData.eqv, this]
  | .non, .int _, _, _ => by simp [D.py, PyData.eqv]
  | .non, .str _, _, _ => by simp [D.py, PyData.eqv]
  | .non, .tup _, _, _ => by simp [D.py, PyData.eqv]
  | .non, .lst _, _, _ => by simp [D.py, PyData.eqv]
  | .int _, .non, _, _ => by simp [D.py, PyData.eqv]
  | .int _, .str _, _, _ => by simp [D.py, PyData.eqv]
  | .int _, .tup _, _, _ => by simp [D.py, PyData.eqv]
  | .int _, .lst _, _, _ => by simp [D.py, PyData.eqv]
  | .str _, .non, _, _ => by simp [D.py, PyData.eqv]
  | .str _, .int _, _, _ => by simp [D.py, PyData.eqv]
  | .str _, .tup _, _, _ => by simp [D.py, PyData.eqv]
  | .str _, .lst _, _, _ => by simp [D.py, PyData.eqv]
  | .tup _, .non, _, _ => by simp [D.py, PyData.eqv]
  | .tup _, .int _, _, _ => by simp [D.py, PyData.eqv]
  | .tup _, .str _, _, _ => by simp [D.py, PyData.eqv]
  | .tup _, .lst _, _, _ => by simp [D.py, PyData.eqv]
  | .lst _, .non, _, _ => by simp [D.py, PyData.eqv]
  | .lst _, .int _, _, _ => by simp [D.py, PyData.eqv]
  | .lst _, .str _, _, _ => by simp [D.py, PyData.eqv]
  | .lst _, .tup _, _, _ => by simp [D.py, PyData.eqv]
  | .ins _ _ _, _, h, _ => by simp [D.pl] at h
  | .ty _, _, h, _ => by simp [D.pl] at h
  | .adr _, _, h, _ => by simp [D.pl] at h
  | .bl _, _, h, _ => by simp [D.pl] at h
  | _, .ins _ _ _, _, h => by simp [D.pl] at h
  | _, .ty _, _, h => by simp [D.pl] at h
  | _, .adr _, _, h => by simp [D.pl] at h
  | _, .bl _, _, h => by simp [D.pl] at h
theorem eqvAll_pl : ∀ (l m : List D), plAll l = true → plAll m = true → (PyData.eqvAll (pyAll l) (pyAll m) = true ↔ l = m)
  | [], [], _, _ => by simp [pyAll, PyData.eqvAll]
  | [], _ :: _, _, _ => by simp [pyAll, PyData.eqvAll]
  | _ :: _, [], _, _ => by simp [pyAll, PyData.eqvAll]
  | x :: l, y :: m, h1, h2 => by
    have a := eqv_pl x y (by simp [plAll] at h1; exact h1.1) (by simp [plAll] at h2; exact h2.1)
    have b := eqvAll_pl l m (by simp [plAll] at h1; exact h1.2) (by simp [plAll] at h2; exact h2.2)
    simp [pyAll, PyData.eqvAll, a, b]
end
/-! sizes -/
mutual
def D.dep : D → Nat
  | .tup l => depAll l + 1
  | .lst l => depAll l + 1
  | _ => 0
def depAll : List D → Nat
  | [] => 0
  | d :: l => max d.dep (depAll l)
end
mutual
def D.so : D → Bool
  | .str x => PyData.strOk x
  | .tup l => soAll l
  | .lst l => soAll l
  | _ => true
def soAll : List D → Bool
  | [] => true
  | d :: l => d.so && soAll l
end
mutual
theorem lay_pl : ∀ (d : D), d.so = true → d.py.canLay0 = true ∧ d.py.depth ≤ d.dep
  | .non, _ => by simp [D.py, PyData.canLay0, PyData.depth, D.dep]
  | .bl _, _ => by simp [D.py, PyData.canLay0, PyData.depth, D.dep]
  | .int _, _ => by simp [D.py, PyData.canLay0, PyData.depth, D.dep]
  | .ty _, _ => by simp [D.py, PyData.canLay0, PyData.depth, D.dep]
  | .adr _, _ => by simp [D.py, PyData.canLay0, PyData.depth, D.dep]
  | .ins _ _ _, _ => by simp [D.py, PyData.canLay0, PyData.depth, D.dep]
  | .str x, h => ⟨by simpa [D.py, PyData.canLay0, D.so] using h, by simp [D.py, PyData.depth, D.dep]⟩
  | .tup l, h => by
    obtain ⟨a, b⟩ := layAll_pl l (by simpa [D.so] using h)
    exact ⟨by simpa [D.py, PyData.canLay0] using a, by simp only [D.py, PyData.depth, D.dep]; omega⟩
  | .lst l, h => by
    obtain ⟨a, b⟩ := layAll_pl l (by simpa [D.so] using h)
    exact ⟨by simpa [D.py, PyData.canLay0] using a, by simp only [D.py, PyData.depth, D.dep]; omega⟩
theorem layAll_pl : ∀ (l : List D), soAll l = true → PyData.canLayAll0 (pyAll l) = true ∧ PyData.depthAll (pyAll l) ≤ depAll l
  | [], _ => by simp [pyAll, PyData.canLayAll0, PyData.depthAll]
  | d :: l, h => by
    obtain ⟨a, b⟩ := lay_pl d (by simp [soAll] at h; exact h.1)
    obtain ⟨a', b'⟩ := layAll_pl l (by simp [soAll] at h; exact h.2)
    exact ⟨by simp [pyAll, PyData.canLayAll0, a, a'], by simp only [pyAll, PyData.depthAll, depAll]; omega⟩
end
theorem shaped_pl {d : D} (h : d.so = true) (hd : d.dep ≤ 60) : SeqAt.shaped d.py = true := by
  obtain ⟨a, b⟩ := lay_pl d h
  show (_ && decide _) = true
  rw [a, decide_eq_true (by omega)]
  rfl
/-- data that may be compared: no objects, not deep -/
structure Cmpb (d : D) : Prop where
  pl : d.pl = true
  so : d.so = true
  dep : d.dep ≤ 60
section
variable {K : PySem.W.Frag} {x y d : D} {l : List D}
theorem r2_eqD {b : Bool} (hx : Cmpb x) (hy : Cmpb y) (hb : (b = true ↔ x = y)) : R2d K (rEqD K) x y (.bl b) := fun vx vy H h1 h2 Q q => by
  refine ⟨x.py, y.py, h1.dp hx.pl, h2.dp hy.pl, shaped_pl hx.so hx.dep, shaped_pl hy.so hy.dep, q _ H (Ex.refl H) ?_⟩
  have e : PyData.eqv x.py y.py = b := by
    have := eqv_pl x y hx.pl hy.pl
    rw [Bool.eq_iff_iff, this, hb]
  rw [e]
  exact .bl _
theorem r2_neD {b : Bool} (hx : Cmpb x) (hy : Cmpb y) (hb : (b = true ↔ ¬ x = y)) : R2d K (rNeD K) x y (.bl b) := fun vx vy H h1 h2 Q q => by
  refine ⟨x.py, y.py, h1.dp hx.pl, h2.dp hy.pl, shaped_pl hx.so hx.dep, shaped_pl hy.so hy.dep, q _ H (Ex.refl H) ?_⟩
  have e : (!PyData.eqv x.py y.py) = b := by
    have := eqv_pl x y hx.pl hy.pl
    rw [Bool.eq_iff_iff, hb, ← this]
    cases PyData.eqv x.py y.py <;> simp
  rw [e]
  exact .bl _
theorem any_py {x : D} (hx : x.pl = true) : ∀ {l : List D}, plAll l = true → ((pyAll l).any (fun z => PyData.eqv z x.py) = true ↔ x ∈ l)
  | [], _ => by simp [pyAll]
  | d :: l, h => by
    have a := eqv_pl d x (by simp [plAll] at h; exact h.1) hx
    have b := any_py hx (l := l) (by simp [plAll] at h; exact h.2)
    simp only [pyAll, List.any_cons, Bool.or_eq_true, a, b, List.mem_cons]
    constructor
    · rintro (h | h)
      · exact .inl h.symm
      · exact .inr h
    · rintro (h | h)
      · exact .inl h.symm
      · exact .inr h
theorem r2_inD {b : Bool} (hx : Cmpb x) (hy : Cmpb (.lst l)) (hb : (b = true ↔ x ∈ l)) : R2d K (rInD K) x (.lst l) (.bl b) := fun vx vy H h1 h2 Q q => by
  have p : plAll l = true := by simpa [D.pl] using hy.pl
  refine ⟨x.py, pyAll l, h1.dp hx.pl, ?_, shaped_pl hx.so hx.dep, ?_, q _ H (Ex.refl H) ?_⟩
  · have := h2.dp hy.pl
    simpa [D.py] using this
  · have := shaped_pl hy.so hy.dep
    simpa [D.py] using this
  · have e : ((pyAll l).any fun z => PyData.eqv z x.py) = b := by
      rw [Bool.eq_iff_iff, any_py hx.pl p, hb]
    rw [e]
    exact .bl _
theorem r2_ninD {b : Bool} (hx : Cmpb x) (hy : Cmpb (.lst l)) (hb : (b = true ↔ x ∉ l)) : R2d K (rNotInD K) x (.lst l) (.bl b) := fun vx vy H h1 h2 Q q => by
  have p : plAll l = true := by simpa [D.pl] using hy.pl
  refine ⟨x.py, pyAll l, h1.dp hx.pl, ?_, shaped_pl hx.so hx.dep, ?_, q _ H (Ex.refl H) ?_⟩
  · have := h2.dp hy.pl
    simpa [D.py] using this
  · have := shaped_pl hy.so hy.dep
    simpa [D.py] using this
  · have e : (!(pyAll l).any fun z => PyData.eqv z x.py) = b := by
      have := any_py hx.pl p
      rw [Bool.eq_iff_iff, hb, ← this]
      cases (pyAll l).any fun z => PyData.eqv z x.py <;> simp
    rw [e]
    exact .bl _
end
theorem plAll_iff : ∀ {l : List D}, plAll l = true ↔ ∀ d ∈ l, d.pl = true
  | [] => by simp [plAll]
  | d :: l => by simp [plAll, plAll_iff (l := l)]
theorem soAll_iff : ∀ {l : List D}, soAll l = true ↔ ∀ d ∈ l, d.so = true
  | [] => by simp [soAll]
  | d :: l => by simp [soAll, soAll_iff (l := l)]
theorem depAll_le {n : Nat} : ∀ {l : List D}, depAll l ≤ n ↔ ∀ d ∈ l, d.dep ≤ n
  | [] => by simp [depAll]
  | d :: l => by
    have := depAll_le (n := n) (l := l)
    simp only [depAll, List.mem_cons, forall_eq_or_imp, ← this]
    omega
theorem cmpb_list {l : List D} (h : ∀ d ∈ l, d.pl = true ∧ d.so = true ∧ d.dep ≤ 50) : Cmpb (.lst l) ∧ Cmpb (.tup l) := by
  have a := plAll_iff.mpr fun d hd => (h d hd).1
  have b := soAll_iff.mpr fun d hd => (h d hd).2.1
  have c := depAll_le.mpr fun d hd => (h d hd).2.2
  exact ⟨⟨by simpa [D.pl] using a, by simpa [D.so] using b, by simp only [D.dep]; omega⟩, ⟨by simpa [D.pl] using a, by simpa [D.so] using b, by simp only [D.dep]; omega⟩⟩
theorem tD_ok (l : List Nat) : (tD l).pl = true ∧ (tD l).so = true ∧ (tD l).dep ≤ 1 := by
  have a : ∀ d ∈ (zs l).map D.int, d.pl = true ∧ d.so = true ∧ d.dep ≤ 0 := fun d hd => by
    obtain ⟨n, _, rfl⟩ := List.mem_map.mp hd
    exact ⟨rfl, rfl, Nat.le_refl _⟩
  have p := plAll_iff.mpr fun d hd => (a d hd).1
  have q := soAll_iff.mpr fun d hd => (a d hd).2.1
  have r := depAll_le.mpr fun d hd => (a d hd).2.2
  exact ⟨by simpa [D.pl, tD] using p, by simpa [D.so, tD] using q, by simp only [D.dep, tD]; omega⟩
theorem tD_cmp (l : List Nat) : Cmpb (tD l) := ⟨(tD_ok l).1, (tD_ok l).2.1, by have := (tD_ok l).2.2; omega⟩
theorem lsD_cmp (ls : List (List Nat)) : Cmpb (lsD ls) ∧ Cmpb (tsD ls) := cmpb_list fun d hd => by
  obtain ⟨l, _, rfl⟩ := List.mem_map.mp hd
  obtain ⟨a, b, c⟩ := tD_ok l
  exact ⟨a, b, by omega⟩
theorem map_int_inj {l m : List Nat} : ((zs l).map D.int) = ((zs m).map D.int) ↔ l = m := by
  constructor
  · intro h
    induction l generalizing m with
    | nil => cases m <;> simp_all [zs]
    | cons a l ih =>
      cases m with
      | nil => simp [zs] at h
      | cons b m =>
        simp only [zs, List.map_cons, List.cons.injEq, D.int.injEq] at h
        have h1 : a = b := by omega
        rw [h1, ih h.2]
  · rintro rfl; rfl
theorem tD_inj {l m : List Nat} : tD l = tD m ↔ l = m := by
  unfold tD
  rw [D.tup.injEq, map_int_inj]
theorem map_tD_inj {l m : List (List Nat)} : l.map tD = m.map tD ↔ l = m := by
  constructor
  · intro h
    induction l generalizing m with
    | nil => cases m <;> simp_all
    | cons a l ih =>
      cases m with
      | nil => simp at h
      | cons b m =>
        simp only [List.map_cons, List.cons.injEq, tD_inj] at h
        rw [h.1, ih h.2]
  · rintro rfl; rfl
theorem mem_tD {x : List Nat} {l : List (List Nat)} : tD x ∈ l.map tD ↔ x ∈ l := by
  constructor
  · intro h
    obtain ⟨y, h1, h2⟩ := List.mem_map.mp h
    rw [← tD_inj.mp h2]
    exact h1
  · exact List.mem_map_of_mem
end Y
set_option Elab.async false
set_option linter.all false
set_option autoImplicit false
set_option maxRecDepth 100000
set_option maxHeartbeats 1000000
/-! sorted over tuples of things, of any lengths. -/
namespace Y
open PySem L2 PySem.W PyProof.Rows

def encT (t : List Nat) : PyData := .tuple ((zs t).map .int)
theorem pyAll_ints : ∀ (l : List Int), pyAll (l.map D.int) = l.map PyData.int
  | [] => rfl
  | i :: l => by
    show D.py (.int i) :: pyAll (l.map D.int) = _
    rw [pyAll_ints l]
    rfl
theorem encT_eq (t : List Nat) : (tD t).py = encT t := by
  show PyData.tuple (pyAll _) = _
  rw [pyAll_ints]
  rfl
theorem zs_lt : ∀ (a b : List Nat), zs a < zs b ↔ a < b
  | [], [] => by simp [zs]
  | [], b :: bs => by simp [zs]
  | a :: as, [] => by simp [zs]
  | a :: as, b :: bs => by
    have ih := zs_lt as bs
    show ((a : Int) :: zs as) < ((b : Int) :: zs bs) ↔ _
    rw [List.cons_lt_cons_iff, List.cons_lt_cons_iff, ih]
    constructor
    · rintro (h | ⟨h1, h2⟩)
      · exact .inl (by omega)
      · exact .inr ⟨by omega, h2⟩
    · rintro (h | ⟨h1, h2⟩)
      · exact .inl (by omega)
      · exact .inr ⟨by omega, h2⟩
theorem dataLe_encT : dataLe false encT = fun p q => decide (p ≤ q) := by
  funext p q
  show (!dataLt (encT q) (encT p)) = _
  unfold encT
  rw [dataLt_tuple]
  show (!rowLt ((zs q).map .int) ((zs p).map .int)) = _
  rw [dataLt_ints]
  by_cases h : q < p
  · have h' : ¬ p ≤ q := fun r => List.not_lt.mpr r h
    have h2 := (zs_lt q p).mpr h
    simp [h2, h']
  · have h' : p ≤ q := List.not_lt.mp h
    have h2 : ¬ zs q < zs p := fun z => h ((zs_lt q p).mp z)
    simp [h2, h']
theorem encT_alike (l : List (List Nat)) : AllAlike (l.map encT) := AllAlike.of fun a b => by
  show alike (.tuple _) (.tuple _) = true
  rw [alike]
  exact alike_ints _ _
theorem encT_depth (t : List Nat) : (encT t).depth = 1 := by
  unfold encT
  rw [PyData.depth, depth_ints]
section
variable {prog : Program} {w : World} {A : Around} {s : Shared}
theorem sortsT {vs : List Value} {ts : List (List Nat)} (e : EachIs (fun v t => ∃ as, Reads s.heap v (encT t) as) vs ts) (hk : ts.length ≤ 1 ∨ ∀ t ∈ ts, t ≠ []) (hu : A.units + 1 < cLine) : SortsAt prog w A s (dataKind s.heap (ts.map encT)) vs := by
  have e' := each_map (R := fun v d => ∃ as, Reads s.heap v d as) encT e
  have ub : ∀ d, d ∈ ts.map encT → A.units + d.depth < cLine := fun d hd => by
    obtain ⟨t, _, rfl⟩ := List.mem_map.mp hd
    rw [encT_depth]
    exact hu
  rcases hk with h1 | hn
  · refine ⟨fun v hv => ?_, tuples' true, fun E x y a b Q ha hb hq => ?_, fun h2 => ?_⟩
    · obtain ⟨d, hd, as, r⟩ := e'.left v hv
      exact ⟨_, dataKind_some (encT_alike ts) hd r⟩
    · obtain ⟨d, as, hd, ra, rfl⟩ := dataKind_inv ha
      obtain ⟨d', as', hd', rb, rfl⟩ := dataKind_inv hb
      obtain ⟨p, _, rfl⟩ := List.mem_map.mp hd
      obtain ⟨q, _, rfl⟩ := List.mem_map.mp hd'
      have hq' : Q (dataLt (encT p) (encT q)) s := hq
      unfold encT at hq' ra rb
      rw [dataLt_tuple] at hq'
      cases ra with
      | @tuple l o xs n _ _ h1 h2 h3 h4 =>
        cases rb with
        | @tuple l' o' xs' n' _ _ k1 k2 k3 k4 =>
          have n1 : xs.size = ((zs p).map PyData.int).length := by simpa using SeqAt.ReadsAll.length _ _ _ h4
          have n2 : xs'.size = ((zs q).map PyData.int).length := by simpa using SeqAt.ReadsAll.length _ _ _ k4
          refine kat_lt h1 h3 k1 k3 (katLex_alike _ _ 0 _ _ _ _ h4 k4 (alike_ints _ _) (by rw [depth_ints, depth_ints]; simp; omega) (fun hb _ x r t ex => ?_) (by rw [n1, n2]) hq')
          have : x ∈ (zs p).map PyData.int := by rw [ex]; exact List.mem_cons_self
          obtain ⟨i, _, rfl⟩ := List.mem_map.mp this
          intro z; cases z
    · have := e.length
      omega
  · refine SortsAt.data e' (encT_alike ts) (.inl fun d hd => ?_) ub
    obtain ⟨t, ht, rfl⟩ := List.mem_map.mp hd
    cases t with
    | nil => exact absurd rfl (hn _ ht)
    | cons a r => exact ⟨.int a, (zs r).map .int, rfl⟩
end

/-! the rule -/
def rSortY (K : PySem.W.Frag) : List V → Hp → VK → Prop := fun vs H Q => ∃ (a : Addr) (xs : List V) (ts : List (List Nat)), vs = [V.ref a] ∧ SqL K H a xs ∧ IsAll K H xs (ts.map tD) ∧ (ts.length ≤ 1 ∨ ∀ t ∈ ts, t ≠ []) ∧
  ∀ (p : Addr) (ys : List V), H p = none → IsAll K H ys ((KM.srt ts).map tD) → Q (.ref p) (upd H p (.lst ys))
section
variable {X : Cx} {pins : List (Addr × Obj)} {σ : L2.St} {H : Hp} {s : Shared}
theorem each_of (I : Inv X pins σ H s) : ∀ {xs : List V} {us : List Value} {ts : List (List Nat)}, Vals xs us → IsAll X.K H xs (ts.map tD) →
    EachIs (fun v t => (∃ x : V, RelV x v ∧ Is X.K H x (tD t)) ∧ ∃ as, Reads s.heap v (encT t) as) us ts
  | [], _, [], .nil, _ => .nil
  | x :: xs, _, [], .cons _ _, h => by cases h
  | [], _, t :: ts, _, h => by cases h
  | x :: xs, u :: us, t :: ts, .cons r rt, h => by
    cases h with
    | cons h1 h2 =>
      refine .cons ⟨⟨x, r, h1⟩, ?_⟩ (each_of I rt h2)
      have := Dp.reads I (tD t).py x u (h1.dp (tD_ok t).1) r
      rw [encT_eq] at this
      exact this
theorem vals_of_each {K : PySem.W.Frag} : ∀ {us : List Value} {ts : List (List Nat)}, EachIs (fun v t => (∃ x : V, RelV x v ∧ Is K H x (tD t))) us ts → ∃ xs : List V, Vals xs us ∧ IsAll K H xs (ts.map tD)
  | _, _, .nil => ⟨[], .nil, .nil⟩
  | _, _, .cons ⟨x, r, h⟩ t => by
    obtain ⟨xs, h1, h2⟩ := vals_of_each t
    exact ⟨x :: xs, .cons r h1, .cons h h2⟩
theorem cr_sortY (hu : X.A.units + 64 < cLine) : CallR X (.builtin "sorted") (rSortY X.K) := by
  intro pins s σ H vs us Q I r h
  obtain ⟨a, xs, ts, rfl, hs, ha, hk, q⟩ := h
  obtain ⟨its, rv, hl, hz⟩ := I.list hs
  rw [Vals.ref1 r]
  have e := each_of I rv ha
  have hlen : ts.length ≤ sizeLine := by
    have := ha.length
    rw [List.length_map] at this
    omega
  have er := e.mono fun _ _ h => h.2
  have er' : EachIs (fun v t => ∃ as, Reads (sortingHeap (copyHeap s.heap its) (s.heap.objs.size + 1) its) v (encT t) as) its ts := er.mono fun _ _ ⟨as, r⟩ => ⟨as, PyProof.Rows.Reads.keeps (fun _ _ => sorting_copy_old) r⟩
  have e1 : EachIs (fun v t => ∃ x : V, RelV x v ∧ Is X.K H x (tD t)) its ts := e.mono fun _ _ h => h.1
  refine sorted_vals (κ := dataKind (sortingHeap (copyHeap s.heap its) (s.heap.objs.size + 1) its) (ts.map encT)) hl.isList (sortsT (s := { s with heap := sortingHeap (copyHeap s.heap its) (s.heap.objs.size + 1) its }) er' hk (by show X.A.units + 2 + 1 < cLine; omega)) (by rw [e.length]; exact hlen) ?_
  have eo := sortVals_data (R := fun v t => ∃ x : V, RelV x v ∧ Is X.K H x (tD t)) false e1 er' (encT_alike ts)
  rw [dataLe_encT] at eo
  obtain ⟨ys, y1, y2⟩ := vals_of_each eo
  obtain ⟨out, hout⟩ : ∃ out, out = sortVals (dataKind (sortingHeap (copyHeap s.heap its) (s.heap.objs.size + 1) its) (ts.map encT)) false its its := ⟨_, rfl⟩
  rw [← hout] at y1 ⊢
  obtain ⟨ep, he'⟩ := PyProof.Rows.sortedAll_at s.heap its out.toArray
  have hyl : ys.length ≤ sizeLine := by
    have := y2.length
    rw [List.length_map, (List.mergeSort_perm _ _).length_eq] at this
    omega
  exact ⟨.ref _, upd H (s.heap.objs.size + 1) (.lst ys), I.laid (t' := s.toks) (fun _ _ => PyProof.Rows.sortedAll_old) (Nat.le_succ _) ⟨hyl, out, ep, y1, he'⟩, rfl, q _ ys (I.hok.fresh (Nat.le_succ _)) y2⟩
end
section
variable {K : PySem.W.Frag}
theorem rf_sortY {ts : List (List Nat)} (hk : ts.length ≤ 1 ∨ ∀ t ∈ ts, t ≠ []) : RCf K (rSortY K) [lsD ts] ((KM.srt ts).map tD) := fun vs H h Q q => by
  cases h with
  | cons h t =>
    cases t
    obtain ⟨a, xs, rfl, hs, ha⟩ := h.lst_inv
    exact ⟨a, xs, ts, rfl, hs, ha, hk, fun p ys np hy => q p ys _ np (Ex.new np) upd_same (hy.mono (Ex.new np))⟩
end
end Y
set_option Elab.async false
set_option linter.all false
set_option autoImplicit false
set_option maxRecDepth 100000
set_option maxHeartbeats 1000000
/-! Promises as data, calls, defs. -/
namespace Y
open PySem L2

/-- the promise: from the data ds the datum d (what pre says) -/
def Pure (K : PySem.W.Frag) (pre : List D → D → Prop) : Sp := fun vs H Q _ => ∃ ds d, IsAll K H vs ds ∧ pre ds d ∧ ∀ v H', Ex H H' → Is K H' v d → Q v H'
/-- .. a new list -/
def Fresh (K : PySem.W.Frag) (pre : List D → List D → Prop) : Sp := fun vs H Q _ => ∃ ds l, IsAll K H vs ds ∧ pre ds l ∧ ∀ p ws H', H p = none → Ex H H' → H' p = some (.lst ws) → IsAll K H' ws l → Q (.ref p) H'

/-- a def by its name, called where it raises nothing -/
structure Cl (P : Program) (w : World) (K : PySem.W.Frag) (mg : Str → Option Value) (base : Heap) (k : Nat) (x : Str) (sp : Sp) : Prop where
  ex : ∃ (f : Addr) (fd : FuncData) (ps : List Str), (FnOk P w K mg base CX0 k f fd ps sp ∨ FnOk P w K mg base (L2.CX P w) k f fd ps sp) ∧ mg x = some (.ref f) ∧ PySem.W.keepIn K (.ref f) = true ∧ Binds K fd ps []
section
variable {X : Cx} {k j : Nat} {C : Addr} {x m : Str} {sp : Sp} {p pos apos : Pos} {e o : Expr} {es : List Expr} {ta : TE} {t : TA}
theorem pe_cl (c : Cl X.prog X.w X.K X.mg X.base k x sp) (hr : Room j X.A) (hk : k ≤ j) (hg : Gl X x) (ha : PA X (e :: es) t)
    (hdb : (x == ("__debug__" : Str)) = false := by decide) (he : starEach (e :: es) X.env = (false, eval e X.env) :: starEach es X.env := by rfl) (hpl : (backTo pos (starEach es X.env)).any (·.1) = false := by rfl) :
    PE X (.Call (.Name x p) (e :: es) [] pos) (tCall sp [] E0 t) := by
  obtain ⟨f, fd, ps, F, hm, kp, b⟩ := c.ex
  rcases F with F | F
  · exact pe_call F (hr.mono hk) hg hm kp b .nil pass0 ha hdb he hpl
  · exact pe_call F (hr.mono hk) hg hm kp b .nil passL ha hdb he hpl
theorem pe_cl0 (c : Cl X.prog X.w X.K X.mg X.base k x sp) (hr : Room j X.A) (hk : k ≤ j) (hg : Gl X x)
    (hdb : (x == ("__debug__" : Str)) = false := by decide) : PE X (.Call (.Name x p) [] [] pos) (tCall sp [] E0 tNil) := by
  obtain ⟨f, fd, ps, F, hm, kp, b⟩ := c.ex
  rcases F with F | F
  · exact pe_call0 F (hr.mono hk) hg hm kp b .nil pass0 hdb
  · exact pe_call0 F (hr.mono hk) hg hm kp b .nil passL hdb
end

section
variable {K : PySem.W.Frag} {B : List Addr} {H0 : Hp} {Z : Hp → Prop} {E : List Slot} {ea : TA} {d : D} {l m : List D} {ex : XK}
theorem ep_call {pre : List D → D → Prop} (h : EA K B H0 Z ea E l) (hp : pre l d) : EP K B H0 Z (tCall (Pure K pre) [] ex ea) E d := fun σ H e Q q =>
  h σ H e _ fun vs H1 e1 h1 => ⟨l, d, by rw [List.append_nil]; exact h1, hp, fun v H2 e2 h2 => q v H2 (e1.trans e2) h2⟩
theorem ef_call {pre : List D → List D → Prop} (h : EA K B H0 Z ea E l) (hp : pre l m) : EF K B H0 Z (tCall (Fresh K pre) [] ex ea) E m := fun σ H e Q q =>
  h σ H e _ fun vs H1 e1 h1 => ⟨l, m, by rw [List.append_nil]; exact h1, hp, fun p ws H2 np e2 hp2 h2 => q p ws H2 (e1.back np) (e1.trans e2) hp2 h2⟩
/-- a def's entry -/
def entry (N : List Str) (ds : List D) : List Slot := ds.map .val ++ List.replicate (N.length - ds.length) .no
theorem ows_entry (N : List Str) (ds : List D) : ows (entry N ds) = [] := by
  refine List.eq_nil_iff_forall_not_mem.mpr fun p hp => ?_
  obtain ⟨i, l, h⟩ := mem_ows.mp hp
  have hm := List.mem_of_getElem? h
  unfold entry at hm
  rcases List.mem_append.mp hm with h | h
  · obtain ⟨_, _, h⟩ := List.mem_map.mp h
    cases h
  · have := (List.mem_replicate.mp h).2
    cases this
theorem env_entry {N : List Str} {vs : List V} {ds : List D} {H : Hp} (h : IsAll K H vs ds) (hN : ds.length ≤ N.length) : Env K [] H (fun _ => True) (entry N ds) (start N vs) H := by
  have hl := h.length
  have no : ∀ (i : Nat) (p : Addr) (l : List D), (entry N ds)[i]? = some (.own p l) → False := fun i p l q => by
    have : p ∈ ows (entry N ds) := mem_ows.mpr ⟨i, l, q⟩
    rw [ows_entry] at this
    cases this
  refine ⟨fun a o _ q => q, fun i j p l m h1 h2 => (no i p l h1).elim, fun i p l q => (no i p l q).elim, ?_, fun i d q => ?_, fun i p l q => (no i p l q).elim, trivial, fun _ _ => trivial⟩
  · simp [L2.start, entry, hl]
  · rw [ows_entry, hid_nil]
    unfold entry at q
    by_cases hi : i < ds.length
    · rw [List.getElem?_append_left (by simpa using hi), List.getElem?_map] at q
      cases e : ds[i]? with
      | none => rw [e] at q; cases q
      | some d' =>
        rw [e] at q
        have : d' = d := by simpa using q
        subst this
        obtain ⟨v, h1, h2⟩ := h.getD e
        refine ⟨v, ?_, h2⟩
        unfold L2.start
        rw [List.getElem?_append_left (by simpa [hl] using hi), List.getElem?_map, h1]
        rfl
    · rw [List.getElem?_append_right (by simpa using hi)] at q
      have := List.mem_of_getElem? q
      have := (List.mem_replicate.mp this).2
      cases this
end

/-- the ends of a pure def's body -/
structure Ok (K : PySem.W.Frag) (H : Hp) (D : Ends) (d : Y.D) : Prop where
  rt : RT K [] H D d
  nx : d = .non → ∀ σ H', Ex H H' → D.nx σ H'
theorem sd_end {K : PySem.W.Frag} {H : Hp} {Z : Hp → Prop} {E : List Slot} {D : Ends} (o : Ok K H D .non) : SD K [] H Z tNext D E := fun σ H' e => o.nx rfl σ H' fun a u q => e.ex a u (by simp) q
section
variable {P : Program} {w : World} {K : PySem.W.Frag} {mg : Str → Option Value} {base : Heap}
theorem pure_ok {x qual : Str} {st : Stmt} {f : Addr} {fd : FuncData} {N ps : List Str} {k : Nat} {pre : List D → D → Prop} (F : Fun K x qual st f fd) (S : FnScope N ps (defScope st)) (len : ∀ ds d, pre ds d → ds.length = ps.length) (hN : ps.length ≤ N.length)
    (hb : ∀ (cdv : Value) (A : Around) (outer : List PySem.Env) (s : Shared) (H : Hp) (E : XK), Room k (A.deeper (PyProof.Rows.envOfC qual (defScope st) s.heap.objs.size f cdv)) →
      ∃ t, PSs (cxOf CX0 P w K mg base N qual (defScope st) f cdv A outer s H E).nox (defBody st) t ∧ ∀ ds d, pre ds d → ∀ D : Ends, Ok K H D d → SD K [] H (fun _ => True) t D (entry N ds)) :
    FnOk P w K mg base CX0 (k + 1) f fd ps (Pure K pre) := by
  refine F.ok S (fun vs H Q E h => ?_) (fun cdv A outer s H vs Q E hr h => ?_)
  · obtain ⟨ds, d, h1, h2, _⟩ := h
    rw [h1.length]
    exact len ds d h2
  · obtain ⟨t, ht, hs⟩ := hb cdv A outer s H E hr
    refine ⟨t, ht, ?_⟩
    obtain ⟨ds, d, h1, h2, h3⟩ := h
    refine hs ds d h2 _ ⟨fun v H' e i => h3 v H' (fun a o q => e a o (by simp) q) i, fun hd σ H' e => h3 .non H' e (hd ▸ .non)⟩ _ _ (env_entry h1 ?_)
    have := len ds d h2
    omega
/-- the ends of a def that hands back a new list -/
structure OkF (K : PySem.W.Frag) (H : Hp) (D : Ends) (l : List Y.D) : Prop where
  rt : RTF K [] H D l
theorem fresh_ok {x qual : Str} {st : Stmt} {f : Addr} {fd : FuncData} {N ps : List Str} {k : Nat} {pre : List D → List D → Prop} (F : Fun K x qual st f fd) (S : FnScope N ps (defScope st)) (len : ∀ ds d, pre ds d → ds.length = ps.length) (hN : ps.length ≤ N.length)
    (hb : ∀ (cdv : Value) (A : Around) (outer : List PySem.Env) (s : Shared) (H : Hp) (E : XK), Room k (A.deeper (PyProof.Rows.envOfC qual (defScope st) s.heap.objs.size f cdv)) →
      ∃ t, PSs (cxOf CX0 P w K mg base N qual (defScope st) f cdv A outer s H E).nox (defBody st) t ∧ ∀ ds l, pre ds l → ∀ D : Ends, OkF K H D l → SD K [] H (fun _ => True) t D (entry N ds)) :
    FnOk P w K mg base CX0 (k + 1) f fd ps (Fresh K pre) := by
  refine F.ok S (fun vs H Q E h => ?_) (fun cdv A outer s H vs Q E hr h => ?_)
  · obtain ⟨ds, d, h1, h2, _⟩ := h
    rw [h1.length]
    exact len ds d h2
  · obtain ⟨t, ht, hs⟩ := hb cdv A outer s H E hr
    refine ⟨t, ht, ?_⟩
    obtain ⟨ds, l, h1, h2, h3⟩ := h
    refine hs ds l h2 _ ⟨fun p ws H' np e hp i => h3 p ws H' (np (by simp)) (fun a o q => e a o (by simp) q) hp i⟩ _ _ (env_entry h1 ?_)
    have := len ds l h2
    omega
end
end Y
set_option Elab.async false
set_option linter.all false
set_option autoImplicit false
set_option maxRecDepth 100000
set_option maxHeartbeats 1000000
/-! Numbers that are not negative; slots forgotten. -/
namespace Y
open PySem L2
/-- a number -/
abbrev iD (n : Nat) : D := .int (n : Int)
/-- a list of numbers -/
def nD (l : List Nat) : D := .lst (l.map iD)
theorem tD_eq (l : List Nat) : tD l = .tup (l.map iD) := by
  show D.tup ((zs l).map D.int) = _
  rw [zs, List.map_map]
  rfl
theorem nD_eq (l : List Nat) : nD l = .lst ((zs l).map D.int) := by
  show D.lst _ = _
  rw [zs, List.map_map]
  rfl
theorem imAll_nD (l : List Nat) : imAll (l.map iD) = true := by
  rw [imAll_iff]
  intro d hd
  obtain ⟨n, _, rfl⟩ := List.mem_map.mp hd
  rfl
theorem imAll_append {l m : List D} (a : imAll l = true) (b : imAll m = true) : imAll (l ++ m) = true := by
  rw [imAll_iff] at *
  intro d hd
  rcases List.mem_append.mp hd with h | h
  · exact a d h
  · exact b d h
theorem imAll_map {α : Type} {c : α → D} (h : ∀ a, (c a).im = true) (l : List α) : imAll (l.map c) = true := by
  rw [imAll_iff]
  intro d hd
  obtain ⟨a, _, rfl⟩ := List.mem_map.mp hd
  exact h a
section
variable {K : PySem.W.Frag} {B : List Addr} {H0 : Hp} {Z : Hp → Prop} {E E' : List Slot} {ta tb tc te : TE} {t u : TT} {ea : TA} {x y z d : D} {l m : List D} {a b c : Nat} {ns : List Nat}
theorem r2_and : R2d K (rI0 fun i j => .int (Builtin.bitAnd i j)) (iD a) (iD b) (iD (a &&& b)) := by
  have h := r2_int (K := K) (g := fun i j => Builtin.bitAnd i j) (i := (a : Int)) (j := (b : Int))
  have e : Builtin.bitAnd (a : Int) (b : Int) = ((a &&& b : Nat) : Int) := PySem.W.os_band a b
  rw [e] at h
  exact h
theorem r2_or : R2d K (rI0 fun i j => .int (Builtin.bitOr i j)) (iD a) (iD b) (iD (a ||| b)) := by
  have h := r2_int (K := K) (g := fun i j => Builtin.bitOr i j) (i := (a : Int)) (j := (b : Int))
  have e : Builtin.bitOr (a : Int) (b : Int) = ((a ||| b : Nat) : Int) := by
    rw [bitOr_nn (Int.natCast_nonneg _) (Int.natCast_nonneg _), Int.toNat_natCast, Int.toNat_natCast]
  rw [e] at h
  exact h
theorem r2_shl1 (h : a < 100000) : R2d K (rI CShl fun i j => .int (i * 2 ^ j.toNat)) (.int 1) (iD a) (iD (2 ^ a)) := by
  have h := r2_intC (K := K) (C := CShl) (g := fun i j => i * 2 ^ j.toNat) (i := 1) (j := (a : Int)) (shl_ok (n := 2) (by decide) (by omega))
  have e : (1 : Int) * 2 ^ ((a : Int)).toNat = ((2 ^ a : Nat) : Int) := by simp
  rw [e] at h
  exact h
theorem r2_shr : R2d K (rI (fun _ j => 0 ≤ j) fun i j => .int (i / 2 ^ j.toNat)) (iD a) (iD b) (iD (a >>> b)) := by
  have h := r2_intC (K := K) (C := fun _ j => 0 ≤ j) (g := fun i j => i / 2 ^ j.toNat) (i := (a : Int)) (j := (b : Int)) (Int.natCast_nonneg _)
  have e : (a : Int) / 2 ^ ((b : Int)).toNat = ((a >>> b : Nat) : Int) := by simp [Nat.shiftRight_eq_div_pow]
  rw [e] at h
  exact h
theorem dec_cast {a b : Nat} : decide ((a : Int) = (b : Int)) = (a == b) := by
  by_cases h : a = b
  · subst h; simp
  · have h2 : ¬ (a : Int) = (b : Int) := by omega
    simp [h, h2]
theorem r2_eqN : R2d K rEq (iD a) (iD b) (.bl (a == b)) := by
  have h := r2_eqI (K := K) (i := (a : Int)) (j := (b : Int))
  rw [dec_cast] at h
  exact h
theorem r2_neN : R2d K rNe (iD a) (iD b) (.bl (a != b)) := by
  have h := r2_neI (K := K) (i := (a : Int)) (j := (b : Int))
  rw [dec_cast] at h
  exact h
theorem ep_nat {n : Nat} : EP K B H0 Z (tC (.int (n : Int))) E (iD n) := ep_int
theorem ep_n0 : EP K B H0 Z (tC (.int 0)) E (iD 0) := ep_int
theorem ep_n1 : EP K B H0 Z (tC (.int 1)) E (iD 1) := ep_int
theorem zs_sort (l : List Nat) : srtI (zs l) = zs (KM.sortN l) := by
  unfold srtI KM.sortN zs
  exact (List.map_mergeSort (r := fun a b => decide (a ≤ b)) (s := fun a b : Int => decide (a ≤ b)) (f := fun (n : Nat) => (n : Int)) (fun a _ b _ => by simp)).symm
theorem rf_sortedN : RCf K (rSortedI K) [nD ns] ((KM.sortN ns).map iD) := by
  have h := rf_sortedI (K := K) (y := nD ns) (ns := zs ns) (nD_eq ns)
  rw [zs_sort] at h
  have e : (zs (KM.sortN ns)).map D.int = (KM.sortN ns).map iD := by
    rw [zs, List.map_map]
    rfl
  rw [e] at h
  exact h
theorem rc_allN {bs : List Nat} {p : Nat → Bool} : RCd K (rAll K) [.lst (bs.map fun n => .bl (p n))] (.bl (bs.all p)) := by
  have h := rc_all (K := K) (bs := bs.map p)
  rw [List.map_map] at h
  have e : (bs.map p).all id = bs.all p := by rw [List.all_map]; rfl
  rw [e] at h
  exact h
theorem rc_allL {α : Type} {bs : List α} {p : α → Bool} : RCd K (rAll K) [.lst (bs.map fun n => .bl (p n))] (.bl (bs.all p)) := by
  have h := rc_all (K := K) (bs := bs.map p)
  rw [List.map_map] at h
  have e : (bs.map p).all id = bs.all p := by rw [List.all_map]; rfl
  rw [e] at h
  exact h
theorem rc_anyL {α : Type} {bs : List α} {p : α → Bool} : RCd K (rAny K) [.lst (bs.map fun n => .bl (p n))] (.bl (bs.any p)) := by
  have h := rc_any (K := K) (bs := bs.map p)
  rw [List.map_map] at h
  have e : (bs.map p).any id = bs.any p := by rw [List.any_map]; rfl
  rw [e] at h
  exact h
theorem rc_lenLn {α : Type} {bs : List α} {g : α → D} : RCd K (fun xs H Q => ∃ p ys, xs = [.ref p] ∧ (SqL K H p ys ∨ SqT K H p ys) ∧ Q (.int ys.length) H) [.lst (bs.map g)] (iD bs.length) := by
  have h := rc_lenL (K := K) (l := bs.map g)
  rw [List.length_map] at h
  exact h
theorem rc_lenTn {α : Type} {bs : List α} {g : α → D} : RCd K (fun xs H Q => ∃ p ys, xs = [.ref p] ∧ (SqL K H p ys ∨ SqT K H p ys) ∧ Q (.int ys.length) H) [.tup (bs.map g)] (iD bs.length) := by
  have h := rc_lenT (K := K) (l := bs.map g)
  rw [List.length_map] at h
  exact h
/-- x.bit_length() -/
theorem ep_bits (h : EP K B H0 Z te E (iD a)) : EP K B H0 Z (tBits te) E (iD (KM.bitLen a)) := fun σ H e Q q => h σ H e _ fun v H1 e1 h1 => by
  cases h1
  refine ⟨_, rfl, ?_⟩
  have e : Builtin.Int.intBits (a : Int) = KM.bitLen a := by
    unfold Builtin.Int.intBits KM.bitLen
    by_cases h : a = 0
    · subst h; rfl
    · have : ¬ (a : Int) = 0 := by omega
      simp [h, this]
  rw [e]
  exact q _ H1 e1 (.int _)
/-! slots forgotten -/
inductive LeE : List Slot → List Slot → Prop
  | nil : LeE [] []
  | eq {s : Slot} {E E' : List Slot} : LeE E E' → LeE (s :: E) (s :: E')
  | no {s : Slot} {E E' : List Slot} : LeE E E' → LeE (s :: E) (.no :: E')
theorem LeE.refl : ∀ (E : List Slot), LeE E E
  | [] => .nil
  | _ :: E => .eq (LeE.refl E)
theorem LeE.at_ : ∀ {E E' : List Slot}, LeE E E' → E.length = E'.length ∧ ∀ (i : Nat) (s : Slot), E'[i]? = some s → s = .no ∨ E[i]? = some s
  | _, _, .nil => ⟨rfl, fun i s h => by simp at h⟩
  | _, _, .eq h => ⟨by simp [h.at_.1], fun i s q => by
    cases i with
    | zero => exact .inr q
    | succ i => exact h.at_.2 i s (by simpa using q) |>.imp id (by simpa using ·)⟩
  | _, _, .no h => ⟨by simp [h.at_.1], fun i s q => by
    cases i with
    | zero => simp at q; exact .inl q.symm
    | succ i => exact h.at_.2 i s (by simpa using q) |>.imp id (by simpa using ·)⟩
theorem Env.le {σ : L2.St} {H : Hp} (e : Env K B H0 Z E σ H) (h : LeE E E') : Env K B H0 Z E' σ H := by
  obtain ⟨hl, ha⟩ := h.at_
  have own : ∀ {i : Nat} {p : Addr} {l : List D}, E'[i]? = some (.own p l) → E[i]? = some (.own p l) := fun {i p l} q => (ha i _ q).resolve_left (by simp)
  have sb : Ex (hid (ows E) H) (hid (ows E') H) := hid_sub fun a m => by
    obtain ⟨i, l, q⟩ := mem_ows.mp m
    exact mem_ows.mpr ⟨i, l, own q⟩
  refine ⟨e.ex, fun i j p l m h1 h2 => e.inj i j p l m (own h1) (own h2), fun i p l h1 => e.fr i p l (own h1), by rw [e.len, hl], fun i d q => ?_, fun i p l q => ?_, e.zm sb e.pin, e.zm⟩
  · obtain ⟨v, h1, h2⟩ := e.val i d ((ha i _ q).resolve_left (by simp))
    exact ⟨v, h1, h2.mono sb⟩
  · obtain ⟨h1, vs, h2, h3⟩ := e.own i p l (own q)
    exact ⟨h1, vs, h2, h3.mono sb⟩
variable {De : Ends}
theorem sd_leF (h : LeE E E') : SD K B H0 Z tNext (LE K B H0 Z De E') E := fun σ H e => e.le h
theorem sd_ctF (h : LeE E E') : SD K B H0 Z tCont (LE K B H0 Z De E') E := fun σ H e => e.le h
theorem sd_weak {tx : TS} (h : LeE E E') (k : SD K B H0 Z tx De E') : SD K B H0 Z tx De E := fun σ H e => k σ H (e.le h)
end
end Y
set_option Elab.async false
set_option linter.all false
set_option autoImplicit false
set_option maxRecDepth 100000
set_option maxHeartbeats 1000000
/-! Loops that may be left early: a fact carried from turn to turn; tuples and lists of a range. -/
namespace Y
open PySem L2
section
variable {K : PySem.W.Frag} {B : List Addr} {H0 : Hp} {Z : Hp → Prop} {E E' : List Slot} {ta tb tc te : TE} {t u : TT} {ea : TA} {x y z d : D} {l m : List D} {b c : Bool}
variable {De : Ends} {tu : TS}
/-- as LE, with a fact -/
def LP (K : PySem.W.Frag) (B : List Addr) (H0 : Hp) (Z : Hp → Prop) (De : Ends) (p : Prop) (E' : List Slot) : Ends :=
  { nx := fun σ H => p ∧ Env K B H0 Z E' σ H, rt := De.rt, bk := De.nx, ct := fun σ H => p ∧ Env K B H0 Z E' σ H }
theorem sd_lp {p : Prop} (hp : p) (h : LeE E E') : SD K B H0 Z tNext (LP K B H0 Z De p E') E := fun σ H e => ⟨hp, e.le h⟩
theorem sd_forLP {α : Type} {j : Nat} (c : α → D) {ts : List α} (Pi : Nat → Prop) (h : EC K B H0 Z te E (.lst (ts.map c))) (Ei : Nat → List Slot) (h0 : E = Ei 0) (p0 : Pi 0)
    (hs : ∀ (Z' : Hp → Prop) i a, ts[i]? = some a → Pi i → SD K B H0 Z' tu (LP K B H0 Z' De (Pi (i + 1)) (Ei (i + 1))) ((Ei i).set j (.val (c a))))
    (hd : Pi ts.length → SD K B H0 Z tNext De (Ei ts.length)) : SD K B H0 Z (tFor (iList K te) (gName j) tu) De E := fun σ H e =>
  h σ H e _ fun v H1 e1 h1 => by
    have e' := e.ext e1
    cases h1 with
    | lst hq ht =>
      rename_i a xs
      refine ⟨a, rfl, ⟨xs, sqL_ex (hid_le _ _) hq⟩, ?_⟩
      have hl : xs.length = ts.length := by rw [ht.length, List.length_map]
      refine for_list (xs := xs) (fun i σ' H' => Pi i ∧ Env K B H0 (fun H => Z H ∧ SqL K H a xs ∧ IsAll K H xs (ts.map c)) (Ei i) σ' H') ?_ (fun i σ' H' _ p => sqL_ex (hid_le _ _) p.2.pin.2.1) ?_ ?_
      · rw [← h0]
        exact ⟨p0, e'.ex, e'.inj, e'.fr, e'.len, e'.val, e'.own, ⟨e'.pin, hq, ht⟩, fun x q => ⟨e.zm x q.1, sqL_ex x q.2.1, q.2.2.mono x⟩⟩
      · rintro i x σ' H' hx ⟨pi, p⟩
        obtain ⟨d, hd1, hd2⟩ := p.pin.2.2.get hx
        obtain ⟨r, hr, rfl⟩ := map_at hd1
        exact hs _ i r hr pi _ _ (p.setC hd2)
      · rintro σ' H' ⟨pi, p⟩
        rw [hl] at p pi
        exact hd pi _ _ (p.drop e.zm)
theorem sd_forRP {j : Nat} {n : Int} (Pi : Nat → Prop) (h : EA K B H0 Z ea E [.int n]) (hn : 0 ≤ n ∧ n ≤ 100000) (Ei : Nat → List Slot) (h0 : E = Ei 0) (p0 : Pi 0)
    (hs : ∀ (i : Nat), (i : Int) < n → Pi i → SD K B H0 Z tu (LP K B H0 Z De (Pi (i + 1)) (Ei (i + 1))) ((Ei i).set j (.val (.int i))))
    (hd : Pi n.toNat → SD K B H0 Z tNext De (Ei n.toNat)) : SD K B H0 Z (tFor (iRng1 ea) (gName j) tu) De E := fun σ H e =>
  h σ H e _ fun vs H1 e1 h1 => by
    have e' := e.ext e1
    have : vs = [.int n] := by
      cases h1 with
      | cons a t => cases a; cases t; rfl
    subst this
    refine ⟨n, rfl, by omega, by omega, for_range (lo := 0) (n := n.toNat) (fun i σ' H' => Pi i ∧ Env K B H0 Z (Ei i) σ' H') ⟨p0, h0 ▸ e'⟩ (fun i σ' H' hi p => ?_) (fun σ' H' p => hd p.1 _ _ p.2)⟩
    have e0 : (0 : Int) + (i : Int) = (i : Int) := Int.zero_add _
    show tu _ (σ'.set j (some (.int ((0 : Int) + (i : Int))))) H'
    rw [e0]
    exact hs i (by omega) p.1 _ _ (p.2.set (.int _) rfl)
/-! the same with a word about the slots -/
def LW (K : PySem.W.Frag) (B : List Addr) (H0 : Hp) (Z : Hp → Prop) (De : Ends) (W : List Slot → Prop) : Ends :=
  { nx := fun σ H => ∃ E, W E ∧ Env K B H0 Z E σ H, rt := De.rt, bk := De.nx, ct := fun σ H => ∃ E, W E ∧ Env K B H0 Z E σ H }
theorem sd_lw {W : List Slot → Prop} (hw : W E') (h : LeE E E') : SD K B H0 Z tNext (LW K B H0 Z De W) E := fun σ H e => ⟨E', hw, e.le h⟩
theorem sd_lwc {W : List Slot → Prop} (hw : W E') (h : LeE E E') : SD K B H0 Z tCont (LW K B H0 Z De W) E := fun σ H e => ⟨E', hw, e.le h⟩
theorem sd_forLW {α : Type} {j : Nat} (c : α → D) {ts : List α} (W : Nat → List Slot → Prop) (h : EC K B H0 Z te E (.lst (ts.map c))) (h0 : W 0 E)
    (hs : ∀ (Z' : Hp → Prop) i a E, ts[i]? = some a → W i E → SD K B H0 Z' tu (LW K B H0 Z' De (W (i + 1))) (E.set j (.val (c a))))
    (hd : ∀ E, W ts.length E → SD K B H0 Z tNext De E) : SD K B H0 Z (tFor (iList K te) (gName j) tu) De E := fun σ H e =>
  h σ H e _ fun v H1 e1 h1 => by
    have e' := e.ext e1
    cases h1 with
    | lst hq ht =>
      rename_i a xs
      refine ⟨a, rfl, ⟨xs, sqL_ex (hid_le _ _) hq⟩, ?_⟩
      have hl : xs.length = ts.length := by rw [ht.length, List.length_map]
      refine for_list (xs := xs) (fun i σ' H' => ∃ E, W i E ∧ Env K B H0 (fun H => Z H ∧ SqL K H a xs ∧ IsAll K H xs (ts.map c)) E σ' H') ?_ (fun i σ' H' _ ⟨_, _, p⟩ => sqL_ex (hid_le _ _) p.pin.2.1) ?_ ?_
      · exact ⟨E, h0, e'.ex, e'.inj, e'.fr, e'.len, e'.val, e'.own, ⟨e'.pin, hq, ht⟩, fun x q => ⟨e.zm x q.1, sqL_ex x q.2.1, q.2.2.mono x⟩⟩
      · rintro i x σ' H' hx ⟨E1, pi, p⟩
        obtain ⟨d, hd1, hd2⟩ := p.pin.2.2.get hx
        obtain ⟨r, hr, rfl⟩ := map_at hd1
        exact hs _ i r E1 hr pi _ _ (p.setC hd2)
      · rintro σ' H' ⟨E1, pi, p⟩
        rw [hl] at pi
        exact hd E1 pi _ _ (p.drop e.zm)
theorem sd_forTW {α : Type} {j : Nat} (c : α → D) {ts : List α} (W : Nat → List Slot → Prop) (h : EC K B H0 Z te E (.tup (ts.map c))) (h0 : W 0 E)
    (hs : ∀ (Z' : Hp → Prop) i a E, ts[i]? = some a → W i E → SD K B H0 Z' tu (LW K B H0 Z' De (W (i + 1))) (E.set j (.val (c a))))
    (hd : ∀ E, W ts.length E → SD K B H0 Z tNext De E) : SD K B H0 Z (tFor (iTup K te) (gName j) tu) De E := fun σ H e =>
  h σ H e _ fun v H1 e1 h1 => by
    have e' := e.ext e1
    cases h1 with
    | tup hq ht =>
      rename_i a xs
      refine ⟨a, rfl, ⟨xs, sqT_ex (hid_le _ _) hq⟩, ?_⟩
      have hl : xs.length = ts.length := by rw [ht.length, List.length_map]
      refine for_tup (xs := xs) (fun i σ' H' => ∃ E, W i E ∧ Env K B H0 (fun H => Z H ∧ SqT K H a xs ∧ IsAll K H xs (ts.map c)) E σ' H') ?_ (fun i σ' H' _ ⟨_, _, p⟩ => sqT_ex (hid_le _ _) p.pin.2.1) ?_ ?_
      · exact ⟨E, h0, e'.ex, e'.inj, e'.fr, e'.len, e'.val, e'.own, ⟨e'.pin, hq, ht⟩, fun x q => ⟨e.zm x q.1, sqT_ex x q.2.1, q.2.2.mono x⟩⟩
      · rintro i x σ' H' hx ⟨E1, pi, p⟩
        obtain ⟨d, hd1, hd2⟩ := p.pin.2.2.get hx
        obtain ⟨r, hr, rfl⟩ := map_at hd1
        exact hs _ i r E1 hr pi _ _ (p.setC hd2)
      · rintro σ' H' ⟨E1, pi, p⟩
        rw [hl] at pi
        exact hd E1 pi _ _ (p.drop e.zm)
theorem sd_forRW {j : Nat} {n : Int} (W : Nat → List Slot → Prop) (h : EA K B H0 Z ea E [.int n]) (hn : 0 ≤ n ∧ n ≤ 100000) (h0 : W 0 E)
    (hs : ∀ (i : Nat) E, (i : Int) < n → W i E → SD K B H0 Z tu (LW K B H0 Z De (W (i + 1))) (E.set j (.val (.int i))))
    (hd : ∀ E, W n.toNat E → SD K B H0 Z tNext De E) : SD K B H0 Z (tFor (iRng1 ea) (gName j) tu) De E := fun σ H e =>
  h σ H e _ fun vs H1 e1 h1 => by
    have e' := e.ext e1
    have : vs = [.int n] := by
      cases h1 with
      | cons a t => cases a; cases t; rfl
    subst this
    refine ⟨n, rfl, by omega, by omega, for_range (lo := 0) (n := n.toNat) (fun i σ' H' => ∃ E, W i E ∧ Env K B H0 Z E σ' H') ⟨E, h0, e'⟩ (fun i σ' H' hi ⟨E1, pi, p⟩ => ?_) (fun σ' H' ⟨E1, pi, p⟩ => hd E1 pi _ _ p)⟩
    have e0 : (0 : Int) + (i : Int) = (i : Int) := Int.zero_add _
    show tu _ (σ'.set j (some (.int ((0 : Int) + (i : Int))))) H'
    rw [e0]
    exact hs i E1 (by omega) pi _ _ (p.set (.int _) rfl)
/-! a range as a tuple, a list -/
theorem isAll_rg {H : Hp} (lo hi : Int) : IsAll K H (rgV lo hi) ((List.range (hi - lo).toNat).map fun (i : Nat) => D.int (lo + (i : Int))) := by
  unfold rgV
  induction List.range (hi - lo).toNat with
  | nil => exact .nil
  | cons a r ih => exact .cons (.int _) ih
theorem ep_tupRg2 {lo hi : Int} (ha : EP K B H0 Z ta E (.int lo)) (hb : EP K B H0 Z tb E (.int hi)) (hz : 0 ≤ lo ∧ lo ≤ 100000 ∧ 0 ≤ hi ∧ hi ≤ 100000) :
    EP K B H0 Z (tTupRg (tRg2 ta tb)) E (.tup ((List.range (hi - lo).toNat).map fun (i : Nat) => D.int (lo + (i : Int)))) := fun σ H e Q q =>
  ha σ H e _ fun v H1 e1 h1 => hb σ H1 (e.ext e1) _ fun u H2 e2 h2 => by
    cases h1; cases h2
    exact ⟨lo, hi, rfl, rfl, RgOk.of_le (by omega) (by omega) (by omega) (by omega), fun p np => q _ _ ((e1.trans e2).trans (Ex.new np)) (.tup (SqT.of upd_same) (isAll_rg lo hi))⟩
theorem ef_lstRg1 {hi : Int} (ha : EP K B H0 Z ta E (.int hi)) (hz : 0 ≤ hi ∧ hi ≤ 100000) :
    EF K B H0 Z (tLstRg (tRg1 ta)) E ((List.range hi.toNat).map fun (i : Nat) => D.int (i : Int)) := fun σ H e Q q =>
  ha σ H e _ fun v H1 e1 h1 => by
    cases h1
    have hr := isAll_rg (K := K) (H := H1) 0 hi
    have e0 : ((List.range (hi - 0).toNat).map fun (i : Nat) => D.int ((0 : Int) + (i : Int))) = ((List.range hi.toNat).map fun (i : Nat) => D.int (i : Int)) := by simp
    rw [e0] at hr
    exact ⟨hi, rfl, RgOk.of_le (by omega) (by omega) (by omega) (by omega), fun p np => q p _ _ (e1.back np) (e1.trans (Ex.new np)) upd_same (hr.mono (Ex.new np))⟩
end
end Y
namespace Y
open PySem L2
/-! readings by names, the written part told -/
def rLen (K : PySem.W.Frag) : List V → Hp → VK → Prop := fun xs H Q => ∃ p ys, xs = [.ref p] ∧ (SqL K H p ys ∨ SqT K H p ys) ∧ Q (.int ys.length) H
def rTupOf (K : PySem.W.Frag) : List V → Hp → VK → Prop := fun xs H Q => ∃ p ys, xs = [.ref p] ∧ ((SqL K H p ys ∧ ∀ l, H l = none → Q (.ref l) (upd H l (.tup ys))) ∨ (SqT K H p ys ∧ Q (.ref p) H))
def rLstOf (K : PySem.W.Frag) : List V → Hp → VK → Prop := fun xs H Q => ∃ p ys, xs = [.ref p] ∧ (SqL K H p ys ∨ SqT K H p ys) ∧ ∀ l, H l = none → Q (.ref l) (upd H l (.lst ys))
section
variable {X : Cx}
theorem call_lenY : CallR X (.builtin "len") (rLen X.K) := call_len_seq
theorem call_tupY : CallR X (.type "tuple") (rTupOf X.K) := call_tuple_of
theorem call_lstY : CallR X (.type "list") (rLstOf X.K) := call_list_of
end
end Y
set_option Elab.async false
set_option linter.all false
set_option autoImplicit false
set_option maxRecDepth 100000
set_option maxHeartbeats 2000000
/-! An own exception class over Exception whose __init__ calls super().__init__(f"..{place}") and keeps place: made. -/
namespace Y
open PySem PySem.W PySem.Calls PyProof.Rows Builtin.ObjectAttr
/-- Exception's mro -/
abbrev excB : List Value := [.type "Exception", .type "BaseException", .type "object"]
/-- the body of such an __init__ -/
def excBody (txt : Str) (j : Nat) (p0 p1 p2 p3 p4 p5 p6 p7 p8 p9 p10 p11 p12 : Pos) : List Stmt :=
  [.Expr (.Call (.Attribute (.Call (.Name "super" p0) [] [] p1) "__init__" p2) [.JoinedStr [.Constant (.str txt) j p3, .FormattedValue (.Name "place" p4) (-1) none p5] p6] [] p7) p8,
   .Assign [.Attribute (.Name "self" p9) "place" p10] (.Name "place" p11) p12]
def excScope : Scope := { kind := .function, names := [("self", .local), ("place", .local), ("__class__", .free), ("super", .globalImplicit)], isGenerator := false, isCoroutine := false, more := [] }
/-- the class at C, its __init__ at f -/
structure ExcK (K : Frag) (P : Program) (C f : Addr) (txt : Str) : Prop where
  ini : findIn K (.ref C) "__init__" = some (some (.ref f))
  own : excInitIn K C excB "Exception.__new__" = true
  ovr : excOver K C excB = true
  fn : isFn K (.ref f) = true
  def_ : ∃ (oc : Value) (od : Option Addr) (qual : Str) (par : Arguments) (dV kV doc pm ct : Value) (an : Option Addr) (cda cc : Addr) (osl : Array (Option Value)) (j : Nat) (p0 p1 p2 p3 p4 p5 p6 p7 p8 p9 p10 p11 p12 : Pos) (ar : Arg),
    K.lookup f = some ⟨oc, od, .func (ksFn "__init__" qual par (excBody txt j p0 p1 p2 p3 p4 p5 p6 p7 p8 p9 p10 p11 p12) excScope dV kV doc pm an (.ref cda) ct cc), osl⟩ ∧ codeIn K (.ref cda) qual = true ∧
      (∀ u v : Value, bindArgs (ksFn "__init__" qual par (excBody txt j p0 p1 p2 p3 p4 p5 p6 p7 p8 p9 p10 p11 p12) excScope dV kV doc pm an (.ref cda) ct cc) ⟨[u, v], []⟩ = (pure [(("self" : Str), u), (("place" : Str), v)] : Sem (List (Str × Value)))) ∧
      (par.posonlyargs ++ par.args).head? = some ar ∧ ar.arg = "self" ∧
      (∃ ccl cdd vs ccs file tf, K.lookup cda = some ⟨ccl, cdd, .fields vs, ccs⟩ ∧ vs[2]? = some (.str file tf) ∧ ((P.main.file : Str) == file) = true) ∧
      (∀ L : Addr, ∃ pl : Sem Bool, eval (.Call (.Attribute (.Call (.Name "super" p0) [] [] p1) "__init__" p2) [.JoinedStr [.Constant (.str txt) j p3, .FormattedValue (.Name "place" p4) (-1) none p5] p6] [] p7) (ksEnv qual excScope L f (.ref cda) cc) = (do
      let ov ← attributeBase (.Call (.Name "super" p0) [] [] p1) "__init__" (ksEnv qual excScope L f (.ref cda) cc) (eval (.Call (.Name "super" p0) [] [] p1) (ksEnv qual excScope L f (.ref cda) cc))
      standAt p2.atName
      let (fm, first) ← holding [ov] (getMethod ov "__init__" pl)
      callWith p7 fm first (backTo p7 (starEach [.JoinedStr [.Constant (.str txt) j p3, .FormattedValue (.Name "place" p4) (-1) none p5] p6] (ksEnv qual excScope L f (.ref cda) cc))) [])) ∧
      ∃ cl cld csl, K.lookup cc = some ⟨cl, cld, .cell (some (.ref C)), csl⟩
  sup : ks_superIn K C C "__init__" = some (some (.builtin "Exception.__init__"))
  opq : nsIn K cStatics "thirdparty.any" = some none
  sub : subIn K (.ref C) (.type "Exception") = some true
  slf : mroIn K C (.ref C) = some true
  sa : findIn K (.ref C) "__setattr__" = some (some (.builtin "object.__setattr__"))
  tk : takerIn K C "place" = some none
  hd : hasDictIn K C = true
  exC : subIn K (.ref C) (.type "BaseException") = some true
  tyC : typeIn K (.ref C) = some (.type "type")
  kC : keepIn K (.ref C) = true
  top : (P.main.scope.names.lookup ("super" : Str)).isSome = false
section
variable {P : Program} {w : World} {K : Frag} {C f : Addr} {txt : Str} {mg mb : Str → Option Value}
theorem exc_store {A : Around} {E : Value → Shared → Prop} {s : Shared} {x t : Addr} {v : Value} {Q : Unit → Shared → Prop} (c : ExcK K P C f txt) (X : K.In s.heap) (hx : s.heap.get? x = some (excObj C t none .none))
    (q : ∀ dx h' tk, (∀ b o, b ≠ x → s.heap.get? b = some o → h'.get? b = some o) → s.heap.objs.size ≤ dx → h'.get? x = some (excObj C t (some dx) .none) → h'.Ns1 dx (fun y => if y = "place" then some v else none) → Q () { s with heap := h', toks := tk }) :
    wpAny (model P w) A (setAttr (.ref x) "place" v) Q E s := by
  have I : InstAt s.heap x (excObj C t none .none) C none := ⟨hx, rfl, rfl, trivial⟩
  obtain ⟨cd, hcd, hdd⟩ := any_some c.hd
  have xs : x ≠ s.heap.objs.size := Nat.ne_of_lt (Heap.lt_size hx)
  obtain ⟨h, g, d, tk0, os⟩ := s
  refine set_plain X I c.sa (osa_openX (od := none) PySem.F.store_Exception X I c.ovr c.tk fun b => ?_)
  refine wpAny_bind (wpAny_pure (wpAny_bind (instanceDict_exc hx (looks_clsIn X hcd) hdd ?_)))
  show wpAny _ _ (storeInDict h.objs.size _ _ v) _ _ _
  have hx1 : (h.push (dictOf [] 0)).get? x = some (excObj C t none .none) := Heap.get?_push_of_some _ hx
  refine PySem.HandSPX.store_in_new ⟨_, #[], _, (Heap.get?_update_ne _ _ _ _ xs.symm).trans (Heap.get?_push_at rfl rfl), rfl, (fun e he => absurd he (by simp)), fun _ => rfl⟩ fun h' tk' hn hs => ?_
  refine q h.objs.size h' tk' (fun b o hb ho => ?_) (Nat.le_refl _) ?_ hn
  · exact (hs.2 b (Nat.ne_of_lt (Heap.lt_size ho))).trans ((Heap.get?_update_ne _ _ _ _ hb).trans (Heap.get?_push_of_some _ ho))
  · exact (hs.2 x xs).trans (Heap.get?_update_self _ hx1 rfl)
theorem exc_body {A : Around} {E : Value → Shared → Prop} {s : Shared} {R : Flow → Shared → Prop} {G : Heap} {m : Str → Option Value} {L x t : Addr} {n : Int} {tn : Tok} {rest : List Value} {oc cl ccl : Value} {od cld cdd : Option Addr} {qual file : Str} {par : Arguments} {dV kV doc pm ct : Value} {an : Option Addr}
    {cda cc : Addr} {osl csl ccs : Array (Option Value)} {vs : Array Value} {tf : Tok} {j : Nat} {p0 p1 p2 p3 p4 p5 p6 p7 p8 p9 p10 p11 p12 : Pos} {ar : Arg} (c : ExcK K P C f txt)
    (F : Fr G L s.heap m) (X : K.In G) (N : News G L s.heap [(x, excObj C t none .none), (t, excTup rest)]) (xt : x ≠ t) (gg : G.Ns mainGlobals mg) (gs : mg "super" = none) (gb : G.Ns builtinsNs mb) (bs : mb "super" = some (.type "super"))
    (hf : K.lookup f = some ⟨oc, od, .func (ksFn "__init__" qual par (excBody txt j p0 p1 p2 p3 p4 p5 p6 p7 p8 p9 p10 p11 p12) excScope dV kV doc pm an (.ref cda) ct cc), osl⟩)
    (hp : (par.posonlyargs ++ par.args).head? = some ar) (har : ar.arg = "self") (hcd : K.lookup cda = some ⟨ccl, cdd, .fields vs, ccs⟩) (hvs : vs[2]? = some (.str file tf)) (hfile : ((P.main.file : Str) == file) = true)
    (hcc : K.lookup cc = some ⟨cl, cld, .cell (some (.ref C)), csl⟩) {pl : Sem Bool} (hcall : eval (.Call (.Attribute (.Call (.Name "super" p0) [] [] p1) "__init__" p2) [.JoinedStr [.Constant (.str txt) j p3, .FormattedValue (.Name "place" p4) (-1) none p5] p6] [] p7) (ksEnv qual excScope L f (.ref cda) cc) = (do
      let ov ← attributeBase (.Call (.Name "super" p0) [] [] p1) "__init__" (ksEnv qual excScope L f (.ref cda) cc) (eval (.Call (.Name "super" p0) [] [] p1) (ksEnv qual excScope L f (.ref cda) cc))
      standAt p2.atName
      let (fm, first) ← holding [ov] (getMethod ov "__init__" pl)
      callWith p7 fm first (backTo p7 (starEach [.JoinedStr [.Constant (.str txt) j p3, .FormattedValue (.Name "place" p4) (-1) none p5] p6] (ksEnv qual excScope L f (.ref cda) cc))) [])) (hm1 : m "self" = some (.ref x)) (hm2 : m "place" = some (.int n tn)) (hn : n.natAbs.log2 < 1920) (ht : (Str.empty ++ txt ++ (toString n : Str)).length ≤ sizeLine) (ht1 : (Str.empty ++ txt).length ≤ sizeLine)
    (q : ∀ h' t' dx tk, (∀ b o, G.get? b = some o → h'.get? b = some o) → h'.get? x = some (excObj C t' (some dx) .none) → h'.Ns1 dx (fun y => if y = "place" then some (.int n tn) else none) → G.objs.size ≤ dx → dx ≠ x → R .next { s with heap := h', toks := tk }) :
    PySem.wpAt (model P w) A (.func (excBody txt j p0 p1 p2 p3 p4 p5 p6 p7 p8 p9 p10 p11 p12) (ksEnv qual excScope L f (.ref cda) cc)) (execs (excBody txt j p0 p1 p2 p3 p4 p5 p6 p7 p8 p9 p10 p11 p12) (ksEnv qual excScope L f (.ref cda) cc)) R E s := by
  have XS : K.In s.heap := X.keeps F.keep
  have I : InstAt s.heap x (excObj C t none .none) C none := ⟨(N (x, excObj C t none .none) (by simp)).1, rfl, rfl, trivial⟩
  obtain ⟨cd, hcdC, -⟩ := any_some c.hd
  refine ks_wpAt_execs_cons (ks_wpAt_Expr_any (ks_wpAt_MethodCall (pl := pl) ?_ hcall))
  obtain ⟨h, g, d, tk0, os⟩ := s
  obtain ⟨oD, hD1, hD2⟩ : ∃ oD, h.get? C = some oD ∧ oD.data = .cls cd := by
    unfold clsIn at hcdC
    split at hcdC
    · rename_i z1 z2 z3 z4 ho
      cases hcdC
      exact ⟨_, XS _ _ ho, rfl⟩
    · cases hcdC
  refine ks_wpAt_super_base (env := ksEnv qual excScope L f (.ref cda) cc) rfl rfl (by decide) rfl (XS _ _ hf) rfl hp rfl (XS _ _ hcd) rfl hvs hfile c.top ?_
  refine ks_loadName_global rfl rfl (loadGlobal_builtin (env := ksEnv qual excScope L f (.ref cda) cc) (gg.keeps F.keep) gs (gb.keeps F.keep) bs ⟨rfl, ?_⟩)
  refine wpAny_loadName_free rfl rfl rfl ⟨_, XS _ _ hcc, rfl⟩ ?_
  rw [har]
  refine wpAny_loadName_local rfl rfl F.ns hm1 ?_
  refine ks_wpAny_isType_cls hD1 hD2 ⟨rfl, ?_⟩
  refine ks_wpAny_call_super hD1 hD2 I.at_ I.cls (fun c' e => ?_) (looks_mroIn XS c.slf) (fun h1 e1 k1 => ?_)
  · cases e
  obtain ⟨F1, N1, l1⟩ := ks_newsPush (s := ⟨h, g, d, tk0, os⟩) F N rfl e1 k1
  have I1 : InstAt h1 x (excObj C t none .none) C none := ⟨(N1 (x, excObj C t none .none) (by simp)).1, rfl, rfl, trivial⟩
  refine kxs_method kxs_Exception (s := ⟨h1, g, d, tk0, os⟩) F1 X N1 (so := h.objs.size) (D := C) (by simp) I1 c.opq c.sup c.sub (by decide) fun q1 h2 F2 N2 l2 => ?_
  refine kxs_callWith1 (i := "Exception.__init__") (x := x) N2 (by simp) (spliced_more (env := ksEnv qual excScope L f (.ref cda) cc) ?_)
  refine wpAny_JoinedStr ?_
  show Joins _ _ _ [eval _ _, eval _ _] _ _ _
  refine Constant_str ⟨txt, _, rfl, ht1, ?_⟩
  refine wpAny_FormattedValue_plain (wpAny_Name (wpAny_loadName_local rfl rfl F2.ns hm2 (wpAny_formatField_int hn ⟨_, _, rfl, ht, ?_⟩)))
  refine ⟨ht, ?_⟩
  have xq : x < q1 := l2 (x, excObj C t none .none) (by simp)
  have xs : x < h.objs.size := l1 (x, excObj C t none .none) (by simp)
  refine spliced_none ⟨kxs_at N2 (by simp), ?_⟩
  refine kxs_call (x := x) F2 X N2 PySem.F.excBase_Exception c.own (by simp) (.tail (Nat.ne_of_gt xq) (.tail (Nat.ne_of_gt xs) (.head fun p hp => by
    have : p = (t, excTup rest) := by simpa using hp
    rw [this]
    exact fun z => xt z.symm))) (by simp [sizeLine_eq]) fun t3 h3 F3 N3 l3 => ?_
  have hx3 : h3.get? x = some (excObj C t3 none .none) := (N3 (x, excObj C t3 none .none) (by simp)).1
  refine ks_wpAt_execs_cons (ks_wpAt_Assign_Attr (wpAt_of_wpAny (wpAny_Name (wpAny_loadName_local rfl rfl F3.ns hm2 (wpAny_Name (wpAny_loadName_local rfl rfl F3.ns hm1 ?_))))))
  refine exc_store c (X.keeps F3.keep) hx3 fun dx h4 tk k4 hdx hx4 hn4 => ?_
  refine wpAt_of_wpAny (wpAny_execs_nil ?_)
  have gx : G.get? x = none := (N (x, excObj C t none .none) (by simp)).2.2
  have d3 : h3.get? dx = none := by
    cases z : h3.get? dx with
    | none => rfl
    | some o => exact absurd (Nat.lt_of_lt_of_le (Heap.lt_size z) hdx) (Nat.lt_irrefl _)
  refine q h4 t3 dx tk (fun b o e => k4 b o (fun z => by rw [z, gx] at e; cases e) (F3.keep b o e)) hx4 hn4 ?_ (fun z => by rw [z, hx3] at d3; cases d3)
  obtain ⟨oL, _, _, hoL, _⟩ := F3.ns
  exact Nat.le_trans F3.above (Nat.le_trans (Nat.le_of_lt (Heap.lt_size hoL)) hdx)
/-- C(n) -/
theorem exc_call {A : Around} {E : Value → Shared → Prop} {s : Shared} {n : Int} {tn : Tok} {Q : Value → Shared → Prop} (c : ExcK K P C f txt) (X : K.In s.heap) (lim : s.heap.NoLimit) (gg : s.heap.Ns mainGlobals mg) (gs : mg "super" = none) (gb : s.heap.Ns builtinsNs mb)
    (bs : mb "super" = some (.type "super")) (hr : (A.under (.builtin "type.__call__" ⟨[.ref C, .int n tn], []⟩)).depth < recursionLimit) (hn : n.natAbs.log2 < 1920) (ht : (Str.empty ++ txt ++ (toString n : Str)).length ≤ sizeLine) (ht1 : (Str.empty ++ txt).length ≤ sizeLine)
    (q : ∀ h' e t' dx tk, (∀ b o, s.heap.get? b = some o → h'.get? b = some o) → s.heap.objs.size ≤ e → h'.get? e = some (excObj C t' (some dx) .none) → h'.Ns1 dx (fun y => if y = "place" then some (.int n tn) else none) → s.heap.objs.size ≤ dx → dx ≠ e →
      Q (.ref e) { s with heap := h', toks := tk }) : wpAny (model P w) A (call (.ref C) [.int n tn]) Q E s := by
  obtain ⟨nm, N', qn, bs', bm, hdct, sn, sub, ab, col, dd, k0, k1, k2, k3, k5, hC, hT⟩ := excInit_of X c.own
  obtain ⟨oc, od, qual, par, dV, kV, doc, pm, ct, an, cda, cc, osl, j, p0, p1, p2, p3, p4, p5, p6, p7, p8, p9, p10, p11, p12, ar, hf, hcode, hbind, hp, har, ⟨ccl, cdd, vs, ccs, file, tf, hcd, hvs, hfile⟩, hcall, cl, cld, csl, hcc⟩ := c.def_
  have hi' : Looks (model P w) s.heap (typeLookup (.ref C) "__init__") (some (.ref f)) := looks_findIn X c.ini
  have hof := X _ _ hf
  have hcf : oc = .type "function" := by
    have := c.fn
    unfold isFn typeIn at this
    simp only [hf] at this
    simpa using this
  obtain ⟨h, g, d, tk0, os⟩ := s
  refine wpAny_call (PX.call_own PySem.F.excBase_Exception hT hC hi' (fun self => exc_bind hof hcf self) (by simp [sizeLine_eq]) ?_)
  have kk : ∀ b o, h.get? b = some o → ((h.push (excTup [.int n tn])).push (excObj C h.objs.size none .none)).get? b = some o := fun b o e => Heap.get?_push_of_some _ (Heap.get?_push_of_some _ e)
  refine ks_codeAny_call_defAt hr (kk _ _ hof) rfl (lim.keeps kk) (codeRec_of (X.keeps kk) hcode) rfl (.of_eq (hbind _ _)) (show ∀ y ∈ excScope.names, y.2 ≠ .cell by decide) (fun y hy => by
    simp only [List.mem_cons, List.not_mem_nil, or_false] at hy
    rcases hy with rfl | rfl <;> rfl) fun h1 hns hk1 => ?_
  have sz : ((h.push (excTup [.int n tn])).push (excObj C h.objs.size none .none)).objs.size = h.objs.size + 2 := by rw [Heap.size_push, Heap.size_push]
  have none_of : ∀ {a : Addr}, h.objs.size ≤ a → h.get? a = none := fun {a} ha => by
    cases z : h.get? a with
    | none => rfl
    | some o => exact absurd (Nat.lt_of_lt_of_le (Heap.lt_size z) ha) (Nat.lt_irrefl _)
  have e1 : ((h.push (excTup [.int n tn])).push (excObj C h.objs.size none .none)).get? h.objs.size = some (excTup [.int n tn]) := by heap_get
  have e2 : ((h.push (excTup [.int n tn])).push (excObj C h.objs.size none .none)).get? (h.objs.size + 1) = some (excObj C h.objs.size none .none) := by heap_get
  refine exc_body (G := h) (x := h.objs.size + 1) (t := h.objs.size) (rest := [.int n tn]) c ⟨hns, fun b o e => hk1 b o (kk b o e), by rw [sz]; omega⟩ X (fun p hp => ?_) (Nat.succ_ne_self _) gg gs gb bs hf hp har hcd hvs hfile hcc (hcall _).choose_spec rfl rfl hn ht ht1 fun h' t' dx tk k he hd hdx hde => ?_
  · simp only [List.mem_cons, List.not_mem_nil, or_false] at hp
    rcases hp with rfl | rfl
    · exact ⟨hk1 _ _ e2, by rw [sz]; exact Nat.ne_of_lt (Nat.lt_succ_self _), none_of (Nat.le_succ _)⟩
    · exact ⟨hk1 _ _ e1, by rw [sz]; exact Nat.ne_of_lt (Nat.lt_of_lt_of_le (Nat.lt_succ_self _) (Nat.le_succ _)), none_of (Nat.le_refl _)⟩
  · exact ⟨rfl, q h' _ t' dx tk k (Nat.le_succ _) he hd hdx hde⟩
end
end Y
namespace Y
open PySem L2
section
variable {X : Cx} {C f : Addr} {txt : Str} {es : List Expr} {ta : TA} {e : Expr} {p pos : Pos} {k : Nat}
/-- C(e): an exception whose dict says place -/
def tExc (C : Addr) (ta : TA) : St → Hp → XK → Prop := fun σ H Q => ta σ H fun vs H1 => ∃ n : Int, vs = [.int n] ∧ n.natAbs < 1000000 ∧ ∀ d, H1 d = none → Q (.ref C) (some d) (upd H1 d (.xd [("place", .int n)]))
theorem text_fits {n : Int} {txt : Str} (hn : n.natAbs < 1000000) (ht : txt.length ≤ 100) : n.natAbs.log2 < 1920 ∧ (Str.empty ++ txt ++ (toString n : Str)).length ≤ sizeLine ∧ (Str.empty ++ txt).length ≤ sizeLine := by
  have e := int_text_length_le10 (k := 6) (a := n) (by decide) hn
  have e0 : Str.empty.length = 0 := rfl
  refine ⟨?_, ?_, ?_⟩
  · by_cases z : n.natAbs = 0
    · rw [z]; decide
    · exact (Nat.log2_lt z).mpr (Nat.lt_of_lt_of_le hn (by decide +kernel))
  · rw [PySem.Str.length_append, PySem.Str.length_append, ofString_length, sizeLine_eq]; omega
  · rw [PySem.Str.length_append, sizeLine_eq]; omega
theorem pmk_exc {x : Str} (c : ExcK X.K X.prog C f txt) (ht : txt.length ≤ 100) (hr : Room (k + 1) X.A) (hg : Gl X x) (hm : X.mg x = some (.ref C)) (gs : X.mg "super" = none) (ha : PA X (e :: es) ta)
    (hdb : (x == ("__debug__" : Str)) = false := by decide) (he : starEach (e :: es) X.env = (false, eval e X.env) :: starEach es X.env := by rfl) (hpl : (backTo pos (starEach es X.env)).any (·.1) = false := by rfl) :
    PMk X (.Call (.Name x p) (e :: es) [] pos) (tExc C ta) := by
  intro pins s σ H Q I h
  refine wpAny_Call_Name_kw (ld_glob I hg hm ?_ hdb)
  refine PySem.W.callWith_K (h₀ := X.base) I.ok.mod.kin c.kC (thn (ha.run pos pins s σ H _ I h) fun us s1 hh => ?_) he hpl
  obtain ⟨vs, H1, I1, r, n, rfl, hn, q⟩ := hh
  refine ⟨I1.kIn, ?_⟩
  obtain ⟨u, rfl, ru⟩ := r.one
  obtain ⟨tn, rfl⟩ := (show ∃ t, u = Value.int n t from ru)
  obtain ⟨t1, t2, t3⟩ := text_fits hn ht
  have kb : ∀ b o, X.base.get? b = some o → s1.heap.get? b = some o := fun b o z => (I1.env0.bs b o z).1
  obtain ⟨mb, hb1, hb2⟩ := I1.ok.mod.blt
  refine exc_call c I1.kIn (I1.ok.mod.nolimit.keeps kb) (I1.ok.mod.glob.keeps kb) gs (hb1.keeps kb) ((hb2 _ (by decide +kernel)).trans (by first | boot_by_name | rfl | kernel_rfl)) (hr.make C _ []).depth t1 t2 t3 fun h' a t' dx tk kp ha' he' hd' hdx hda => ?_
  obtain ⟨G, g1, g2⟩ := restrict h' fun b => decide (b ≠ a)
  have gk : ∀ b, b ≠ a → G.get? b = h'.get? b := fun b hb => g1 b (decide_eq_true hb)
  have ge : G.get? a = none := g2 a (by simp)
  have kG : ∀ b o, s1.heap.get? b = some o → G.get? b = some o := fun b o z => by
    rw [gk b (Nat.ne_of_lt (Nat.lt_of_lt_of_le (Heap.lt_size z) ha'))]
    exact kp b o z
  have nd : H1 dx = none := I1.hok.fresh hdx
  have na : H1 a = none := I1.hok.fresh ha'
  have J : Inv X pins σ (upd H1 dx (.xd [("place", .int n)])) { s1 with heap := G, toks := tk } := by
    refine I1.laid kG hdx ⟨_, hd'.at fun o z => (gk dx hda).trans z, fun y => ?_⟩
    by_cases hy : y = "place"
    · subst hy
      simp only [if_pos rfl]
      rw [lookup_put, if_pos rfl]
      exact ⟨_, rfl⟩
    · rw [lookup_put, if_neg hy, if_neg hy]
      exact True.intro
  refine ⟨a, _, _, { s1 with heap := G, toks := tk }, _, .ref C, some dx, rfl, J, fun b o z => ?_, ge, he', ⟨rfl, rfl⟩, rfl, rfl, by rw [upd_ne hda.symm]; exact na, rfl, I1.bare, raises_own c.exC c.tyC, q dx nd⟩
  by_cases hb : b = a
  · subst hb
    have z' : G.get? b = some o := z
    rw [ge] at z'
    cases z'
  · exact (gk b hb).symm.trans z
end
end Y
set_option Elab.async false
set_option linter.all false
set_option autoImplicit false
set_option maxRecDepth 100000
set_option maxHeartbeats 1000000
/-! Objects, their methods and operators; defs that may raise. -/
namespace Y
open PySem L2
/-! ### isinstance -/
def D.tyN : D → Option String
  | .non => some "NoneType"
  | .bl _ => some "bool"
  | .int _ => some "int"
  | .str _ => some "str"
  | .tup _ => some "tuple"
  | .lst _ => some "list"
  | _ => none
section
variable {K : PySem.W.Frag} {H : Hp}
theorem tyx_l {a : Addr} {xs : List V} (h : SqL K H a xs) : TyX K H (.ref a) (.type "list") := by
  rcases h with (h | ⟨o, h⟩) | h
  · exact .base (.lst h)
  · exact .base (.frz h)
  · obtain ⟨o, _, _, h1, h2, _⟩ := h
    exact .kList h1 h2
theorem tyx_t {a : Addr} {xs : List V} (h : SqT K H a xs) : TyX K H (.ref a) (.type "tuple") := by
  rcases h with (h | ⟨o, h⟩) | h
  · exact .base (.tup h)
  · exact .fTuple h
  · obtain ⟨o, _, _, h1, h2, _⟩ := h
    exact .kTuple h1 h2
theorem Is.tyx {v : V} {d : D} {t : String} (h : Is K H v d) (e : d.tyN = some t) : TyX K H v (.type t) := by
  cases h with
  | non => cases e; exact .base .non
  | bl b => cases e; exact .base (.bl b)
  | int i => cases e; exact .base (.int i)
  | str x => cases e; exact .base (.str x)
  | ty n => cases e
  | adr n => cases e
  | tup h _ => cases e; exact tyx_t h
  | lst h _ => cases e; exact tyx_l h
  | ins _ _ _ => cases e
end
/-- what the written part says of a class of things -/
structure ObjC (K : PySem.W.Frag) (C : Addr) : Prop where
  cl : Cls K C
  ca : PySem.W.findIn K (.ref C) "__class__" = some (some (.builtin "object.__class__"))
  cn : PySem.W.specialIn K (.builtin "object.__class__") "__get__" = some (some (.builtin "getset_descriptor.__get__"))
  ct : PySem.W.takesIn K (.builtin "object.__class__") = some true
  cm : PySem.W.mroIn K C (.type "object") = some true
def lookD : List Str → List D → Str → Option D
  | n :: ns, d :: l, f => if f = n then some d else lookD ns l f
  | _, _, _ => none
section
variable {K : PySem.W.Frag} {B : List Addr} {H0 : Hp} {Z : Hp → Prop} {E : List Slot} {ta tb tc te : TE} {t : TT} {ea : TA} {x y z d : D} {l m : List D} {b c : Bool} {De : Ends} {tx : TS}
theorem ep_isi {ty t2 : String} {r : Bool} (h : EP K B H0 Z te E d) (e : d.tyN = some ty) (k : kitB ty t2 = some r) : EP K B H0 Z (tCB (rIsi K) (tCons te (tCons (tC (.ty t2)) tNil))) E (.bl r) := fun σ H en Q q =>
  h σ H en _ fun v H1 e1 h1 => ⟨v, .ty t2, .type ty, .type t2, r, rfl, .ty t2, h1.tyx e, kit_ty k, q _ H1 e1 (.bl r)⟩
theorem ep_isiO {C : Addr} {ns : List Str} (h : EP K B H0 Z te E (.ins C ns l)) (c : ObjC K C) : EP K B H0 Z (tCB (rIsi K) (tCons te (tCons (tC (.ref C)) tNil))) E (.bl true) := fun σ H en Q q =>
  h σ H en _ fun v H1 e1 h1 => by
    obtain ⟨a, dx, fs, rfl, ha, _, _⟩ := h1.ins_inv
    refine ⟨.ref a, .ref C, .ref C, .ref C, true, rfl, .own C, .base (.ins ha c.cl c.ca c.cn c.ct c.cm), ?_, q _ H1 e1 (.bl true)⟩
    unfold PySem.W.kitOne
    rw [if_pos (beq_self_eq_true _)]
theorem ep_isiT {ty t2 t3 : String} {r2 r3 : Bool} (h : EP K B H0 Z te E d) (e : d.tyN = some ty) (k : kitB ty t2 = some r2) (k3 : kitB ty t3 = some r3) :
    EP K B H0 Z (tCB (rIsiT K) (tCons te (tCons (tTup (tCons (tC (.ty t2)) (tCons (tC (.ty t3)) tNil))) tNil))) E (.bl (r2 || r3)) := fun σ H en Q q =>
  h σ H en _ fun v H1 e1 h1 => ⟨by simp [sizeLine_eq], fun p np => ⟨v, p, [.ty t2, .ty t3], .type ty, [.type t2, .type t3], r2 || r3, rfl, upd_same, .cons (.ty _) (.cons (.ty _) .nil), (h1.mono (Ex.new np)).tyx e,
    kitAny_cons (kit_ty k) (fun hb => by
      subst hb
      exact kitAny_cons (kit_ty k3) (fun hb => by subst hb; rfl) (fun hb => by subst hb; rfl)) (fun hb => by subst hb; rfl), q _ _ (e1.trans (Ex.new np)) (.bl _)⟩⟩
/-! ### attributes -/
theorem look_fs {H : Hp} {f : Str} : ∀ {fs : List (Str × V)} {ns : List Str} {l : List D}, fs.map (·.1) = ns → IsAll K H (fs.map (·.2)) l → lookD ns l f = some d → ∃ v, fs.lookup f = some v ∧ Is K H v d
  | [], ns, l, e, h, k => by
    subst e
    simp [lookD] at k
  | (n, v) :: fs, ns, l, e, h, k => by
    subst e
    cases h with
    | cons h t =>
      rw [L2.lookup_put]
      simp only [List.map_cons, lookD] at k
      by_cases hf : f = n
      · rw [if_pos hf] at k ⊢
        cases k
        exact ⟨v, rfl, h⟩
      · rw [if_neg hf] at k ⊢
        exact look_fs rfl t k
theorem ep_fld {C : Addr} {ns : List Str} {f : Str} (h : EP K B H0 Z te E (.ins C ns l)) (c : Cls K C) (n : NoAttr K C f) (k : lookD ns l f = some d) : EP K B H0 Z (tFld K te f) E d := fun σ H en Q q =>
  h σ H en _ fun v H1 e1 h1 => by
    obtain ⟨a, dx, fs, rfl, ha, hn, hl⟩ := h1.ins_inv
    obtain ⟨v, h2, h3⟩ := look_fs hn hl k
    exact ⟨a, C, dx, fs, v, rfl, ha, c, n, h2, q v H1 e1 h3⟩
/-! ### defs that may raise -/
/-- the promise: from ds the datum d, or C(place) is raised -/
def PureX (K : PySem.W.Frag) (pre : List D → D → Prop) (preX : List D → Addr → Int → Prop) : Sp := fun vs H Q E => ∃ ds, IsAll K H vs ds ∧ ((∃ d, pre ds d ∧ ∀ v H', Ex H H' → Is K H' v d → Q v H') ∨
  ∃ C n, preX ds C n ∧ ∀ d H', Ex H H' → H' d = some (.xd [("place", .int n)]) → E (.ref C) (some d) H')
/-- an expression that raises as wanted -/
def ER (K : PySem.W.Frag) (B : List Addr) (H0 : Hp) (Z : Hp → Prop) (te : TE) (E : List Slot) : Prop := ∀ σ H, Env K B H0 Z E σ H → ∀ Q : VK, te σ H Q
def ERA (K : PySem.W.Frag) (B : List Addr) (H0 : Hp) (Z : Hp → Prop) (ta : TA) (E : List Slot) : Prop := ∀ σ H, Env K B H0 Z E σ H → ∀ Q : List V → Hp → Prop, ta σ H Q
def ERT (K : PySem.W.Frag) (B : List Addr) (H0 : Hp) (Z : Hp → Prop) (t : TT) (E : List Slot) : Prop := ∀ σ H, Env K B H0 Z E σ H → ∀ Q : Bool → Hp → Prop, t σ H Q
theorem ep_callX {pre : List D → D → Prop} {preX : List D → Addr → Int → Prop} {ex : XK} (h : EA K B H0 Z ea E l) (hp : pre l d) : EP K B H0 Z (tCall (PureX K pre preX) [] ex ea) E d := fun σ H e Q q =>
  h σ H e _ fun vs H1 e1 h1 => ⟨l, by rw [List.append_nil]; exact h1, .inl ⟨d, hp, fun v H2 e2 h2 => q v H2 (e1.trans e2) h2⟩⟩
theorem ep_callS {pre : List D → D → Prop} {preX : List D → Addr → Int → Prop} {ex : L2.St → XK} (h : EA K B H0 Z ea E l) (hp : pre l d) : EP K B H0 Z (tCallS (PureX K pre preX) ex ea) E d := fun σ H e Q q =>
  h σ H e _ fun vs H1 e1 h1 => ⟨l, h1, .inl ⟨d, hp, fun v H2 e2 h2 => q v H2 (e1.trans e2) h2⟩⟩
/-- what is wanted of C(n) here -/
def WX_ (K : PySem.W.Frag) (B : List Addr) (H0 : Hp) (Z : Hp → Prop) (E : List Slot) (W : L2.WX) (C : Addr) (n : Int) : Prop := ∀ σ H, Env K B H0 Z E σ H → ∀ d, H d = some (.xd [("place", .int n)]) → W (.ref C) (some d) σ H
theorem er_callS {pre : List D → D → Prop} {preX : List D → Addr → Int → Prop} {W : L2.WX} {C : Addr} {n : Int} (h : EA K B H0 Z ea E l) (hp : preX l C n) (hw : WX_ K B H0 Z E W C n) : ER K B H0 Z (tCallS (PureX K pre preX) (WE W) ea) E := fun σ H e Q =>
  h σ H e _ fun vs H1 e1 h1 => ⟨l, h1, .inr ⟨C, n, hp, fun dd H2 e2 h2 => hw σ H2 (e.ext (e1.trans e2)) dd h2⟩⟩
theorem era_cons {ta : TE} {tr : TA} (h : ER K B H0 Z ta E) : ERA K B H0 Z (tCons ta tr) E := fun σ H e Q => h σ H e _
theorem er_call {sp : Sp} {ex : XK} (h : ERA K B H0 Z ea E) : ER K B H0 Z (tCall sp [] ex ea) E := fun σ H e Q => h σ H e _
theorem er_callSa {sp : Sp} {ex : L2.St → XK} (h : ERA K B H0 Z ea E) : ER K B H0 Z (tCallS sp ex ea) E := fun σ H e Q => h σ H e _
theorem er_if (h : ERT K B H0 Z t E) : ER K B H0 Z (tIf t ta tb) E := fun σ H e Q => h σ H e _
theorem ert_test (h : ER K B H0 Z te E) : ERT K B H0 Z (tTest te) E := fun σ H e Q => h σ H e _
theorem sd_asgR {g : TG} (h : ER K B H0 Z te E) : SD K B H0 Z (tAsg te g) De E := fun σ H e => h σ H e _
theorem sd_retR (h : ER K B H0 Z te E) : SD K B H0 Z (tRet te) De E := fun σ H e => h σ H e _
theorem sd_dropR (h : ER K B H0 Z te E) : SD K B H0 Z (tDrop te) De E := fun σ H e => h σ H e _
theorem sd_raise {W : L2.WX} {C : Addr} {n : Int} (h : EA K B H0 Z ea E [.int n]) (hn : n.natAbs < 1000000) (hw : WX_ K B H0 Z E W C n) : SD K B H0 Z (fun _ σ H => tExc C ea σ H fun cls d H' => W cls d σ H') De E := fun σ H e =>
  h σ H e _ fun vs H1 e1 h1 => by
    cases h1 with
    | cons a t =>
      cases a; cases t
      exact ⟨n, rfl, hn, fun d nd => hw σ _ (e.ext (e1.trans (Ex.new nd))) d upd_same⟩
end
/-! ### a def that may raise -/
structure OkX (K : PySem.W.Frag) (H : Hp) (Q : VK) (D : Ends) (d : Y.D) : Prop where
  rt : RT K [] H D d
  nx : d = .non → ∀ σ H', Ex H H' → D.nx σ H'
section
variable {P : Program} {w : World} {K : PySem.W.Frag} {mg : Str → Option Value} {base : Heap}
/-- as pure_ok; the exceptions that leave: what E wants of C(n) -/
theorem purex_ok {x qual : Str} {st : Stmt} {f : Addr} {fd : FuncData} {N ps : List Str} {k : Nat} {pre : List D → D → Prop} {preX : List D → Addr → Int → Prop} (F : Fun K x qual st f fd) (S : FnScope N ps (defScope st)) (len : ∀ ds, ((∃ d, pre ds d) ∨ ∃ C n, preX ds C n) → ds.length = ps.length) (hN : ps.length ≤ N.length)
    (hb : ∀ (cdv : Value) (A : Around) (outer : List PySem.Env) (s : Shared) (H : Hp) (E : XK), Room k (A.deeper (PyProof.Rows.envOfC qual (defScope st) s.heap.objs.size f cdv)) →
      ∃ t, PSs (cxOf (L2.CX P w) P w K mg base N qual (defScope st) f cdv A outer s H E) (defBody st) t ∧ (∀ ds d, pre ds d → ∀ D : Ends, Ok K H D d → SD K [] H (fun _ => True) t D (entry N ds)) ∧
        ∀ ds C n, preX ds C n → ∀ D : Ends, (∀ d H', Ex H H' → H' d = some (.xd [("place", .int n)]) → E (.ref C) (some d) H') → SD K [] H (fun _ => True) t D (entry N ds)) :
    FnOk P w K mg base (L2.CX P w) (k + 1) f fd ps (PureX K pre preX) := by
  refine F.okX S (fun vs H Q E h => ?_) (fun cdv A outer s H vs Q E hr h => ?_)
  · obtain ⟨ds, h1, h2⟩ := h
    rw [h1.length]
    rcases h2 with ⟨d, h2, _⟩ | ⟨C, n, h2, _⟩
    · exact len ds (.inl ⟨d, h2⟩)
    · exact len ds (.inr ⟨C, n, h2⟩)
  · obtain ⟨t, ht, hs, hx⟩ := hb cdv A outer s H E hr
    refine ⟨t, ht, ?_⟩
    obtain ⟨ds, h1, h2⟩ := h
    rcases h2 with ⟨d, h2, h3⟩ | ⟨C, n, h2, h3⟩
    · refine hs ds d h2 _ ⟨fun v H' e i => h3 v H' (fun a o q => e a o (by simp) q) i, fun hd σ H' e => h3 .non H' e (hd ▸ .non)⟩ _ _ (env_entry h1 ?_)
      have := len ds (.inl ⟨d, h2⟩)
      omega
    · refine hx ds C n h2 _ (fun d H' e q => h3 d H' e q) _ _ (env_entry h1 ?_)
      have := len ds (.inr ⟨C, n, h2⟩)
      omega
theorem wx_of {K : PySem.W.Frag} {H : Hp} {Z : Hp → Prop} {E : List Slot} {W : XK} {C : Addr} {n : Int} (h : ∀ d H', Ex H H' → H' d = some (.xd [("place", .int n)]) → W (.ref C) (some d) H') : WX_ K [] H Z E (fun cls d _ H' => W cls d H') C n := fun σ H' e d q =>
  h d H' (fun a o z => e.ex a o (by simp) z) q
end
end Y
set_option Elab.async false
set_option linter.all false
set_option autoImplicit false
set_option maxRecDepth 100000
set_option maxHeartbeats 1000000
/-! Methods, own operators, a class called, fields stored. -/
namespace Y
open PySem L2 PySem.Spec
/-- o.m(..) of an instance of the class at C; what leaves it by the slots -/
def tMeS (C : Addr) (m : Str) (sp : Sp) (E : L2.St → XK) (ta : TE) (t : TA) : TE := fun σ H Q => ta σ H fun x H1 => ∃ a dx fs, x = .ref a ∧ H1 a = some (.ins C dx fs) ∧ fs.lookup m = none ∧ t σ H1 fun vs H2 => sp (x :: vs) H2 Q (E σ)
section
variable {X : Cx} {CX : CXT} {k : Nat} {f C g : Addr} {fd : FuncData} {ps : List Str} {sp : Sp} {E : L2.St → XK} {x m : Str} {p pos apos : Pos} {e o : Expr} {es : List Expr} {ta : TE} {t : TA}
theorem pe_meS {pl : Sem Bool} (he : PE X o ta) (c : Cls X.K C) (hm : Meth X.K C m f) (F : FnOk X.prog X.w X.K X.mg X.base CX k f fd ps sp) (hr : Room k X.A) (hb : Binds X.K fd ps []) (hx : ∀ σ, PassesAt CX X σ (E σ)) (ha : PA X (e :: es) t)
    (hst : starEach (e :: es) X.env = (false, eval e X.env) :: starEach es X.env := by rfl) (hpl : (backTo pos (starEach es X.env)).any (·.1) = false := by rfl)
    (ht : eval (.Call (.Attribute o m apos) (e :: es) [] pos) X.env = (do
      let ov ← eval o X.env
      standAt apos.atName
      let (fm, first) ← holding [ov] (getMethod ov m pl)
      callWith pos fm first (backTo pos (starEach (e :: es) X.env)) (backToKw pos (keywordEach [] X.env))) := by rfl) :
    PE X (.Call (.Attribute o m apos) (e :: es) [] pos) (tMeS C m sp E ta t) := by
  refine ⟨fun pins s σ H Q I h => ?_⟩
  refine PySem.W.methodCall_KW (pl := pl) (thn (he.run pins s σ H _ I h) fun u s1 hh => ?_) ht
  obtain ⟨y, H1, I1, ry, a, dx, fs, rfl, ea, l, q⟩ := hh
  obtain rfl : u = Value.ref a := ry
  refine getmeth_ok I1 ea c hm l ?_
  refine PySem.W.callWith_K (first := [.ref a]) (h₀ := X.base) I.ok.mod.kin hm.kp (thn (ha.run pos pins s1 σ H1 _ I1 q) fun us s2 hh => ?_) hst hpl
  obtain ⟨vs, H2, I2, r, q2⟩ := hh
  exact ⟨I2.kIn, run_fnS (us := .ref a :: us) (vs := .ref a :: vs) F hr hb (hx σ) I2 (.cons rfl r) q2⟩
/-! ### own ~ -/
def rInv (C : Addr) (sp : Sp) : V → Hp → VK → Prop := fun x H Q => ∃ a dx fs, x = .ref a ∧ H a = some (.ins C dx fs) ∧ sp [x] H Q E0
theorem un_invO (hs : PySem.W.findIn X.K (.ref C) "__invert__" = some (some (.ref g))) (hf : PySem.W.isFn X.K (.ref g) = true) (F : FnOk X.prog X.w X.K X.mg X.base CX0 k g fd ps sp) (hr : Room k X.A) (hb : Binds X.K fd ps []) : UnR X (unaryOp .Invert) (rInv C sp) := by
  intro pins s σ H y v Q I ry h
  obtain ⟨a, dx, fs, rfl, ha, q⟩ := h
  obtain rfl : v = Value.ref a := ry
  obtain ⟨mA, O, _⟩ := ins_get I.hok ha
  obtain ⟨od, J, _⟩ := O.look
  obtain ⟨m, hF⟩ := I.fr
  exact PySem.W.ksp_inv hF I.ok.mod.kin J hs hf (run_fn (us := [.ref a]) (vs := [.ref a]) F hr hb .nil pass0 I (.cons rfl .nil) q)
/-! ### own == -/
def rEqO (K : PySem.W.Frag) (C : Addr) (sp : Sp) : R2 := fun x y H Q => ∃ a dx fs b dy gs, x = .ref a ∧ y = .ref b ∧ H a = some (.ins C dx fs) ∧ H b = some (.ins C dy gs) ∧ sp [x, y] H Q E0
theorem op_eqO (hn : PySem.W.notFirst X.K C (.ref C) = true) (hs : PySem.W.findIn X.K (.ref C) "__eq__" = some (some (.ref g))) (hf : PySem.W.isFn X.K (.ref g) = true) (F : FnOk X.prog X.w X.K X.mg X.base CX0 k g fd ps sp) (hr : Room k X.A) (hb : Binds X.K fd ps []) :
    OpR X (compareOp .Eq) (rEqO X.K C sp) := by
  intro pins s σ H x y v u Q I rx ry h
  obtain ⟨a, dx, fs, b, dy, gs, rfl, rfl, ha, hb', q⟩ := h
  obtain rfl : v = Value.ref a := rx
  obtain rfl : u = Value.ref b := ry
  obtain ⟨mA, O, _⟩ := ins_get I.hok ha
  obtain ⟨od, J, _⟩ := O.look
  obtain ⟨mB, O', _⟩ := ins_get I.hok hb'
  obtain ⟨od', J', _⟩ := O'.look
  obtain ⟨m, hF⟩ := I.fr
  show wpAny _ _ (richCompare .Eq _ _) _ _ _
  refine PySem.W.cmp_K (op := .Eq) (tb := .ref C) hr.units0 hF I.ok.mod.kin J J'.type hn hs hf ?_
  refine wpAny_mono (run_fn (us := [.ref a, .ref b]) (vs := [.ref a, .ref b]) F hr hb .nil pass0 I (.cons rfl (.cons rfl .nil)) q) (fun w s' z => ?_) fun _ _ z => z
  obtain ⟨z', H', I', rz, qz⟩ := z
  exact SlX.cmpback rz ⟨z', H', I', rz, qz⟩
end
/-! ### an __init__ that stores -/
def InitP (K : PySem.W.Frag) (C : Addr) (pre : List D → List Str → List D → Prop) : Sp := fun vs H Q _ => ∃ x dx us ds ns l, vs = .ref x :: us ∧ H x = some (.ins C dx []) ∧ IsAll K H us ds ∧ pre ds ns l ∧
  ∀ H' fs, (∀ a o, a ≠ x → H a = some o → H' a = some o) → H' x = some (.ins C dx fs) → fs.map (·.1) = ns → IsAll K H' (fs.map (·.2)) l → Q .non H'
mutual
def D.nob : D → Bool
  | .ins _ _ _ => false
  | .tup l => nobAll l
  | .lst l => nobAll l
  | _ => true
def nobAll : List D → Bool
  | [] => true
  | d :: l => d.nob && nobAll l
end
section
variable {K : PySem.W.Frag} {B : List Addr} {H0 H : Hp} {Z : Hp → Prop} {E : List Slot} {ta tb tc te : TE} {t : TT} {ea : TA} {x y z d : D} {l m : List D} {b c : Bool} {De : Ends} {tx : TS} {C : Addr} {ns : List Str} {k : Nat}
theorem nobAll_iff : ∀ {l : List D}, nobAll l = true ↔ ∀ d ∈ l, d.nob = true
  | [] => by simp [nobAll]
  | d :: l => by simp [nobAll, nobAll_iff (l := l)]
theorem rd_put {a x : Addr} {u o : HO} {Cx dx : Addr} {fs : List (Str × V)} (hx : H x = some (.ins Cx dx fs)) (hu : ∀ C d g, u ≠ .ins C d g) (h : Rd H a u) : Rd (upd H x o) a u := by
  rcases h with h | ⟨oo, h⟩
  · exact .inl (by rw [upd_ne (fun z => by subst z; rw [hx] at h; exact hu _ _ _ (Option.some.inj h).symm)]; exact h)
  · exact .inr ⟨oo, by rw [upd_ne (fun z => by subst z; rw [hx] at h; cases h)]; exact h⟩
mutual
theorem Is.put {a Cx dx : Addr} {fs : List (Str × V)} {o : HO} (hx : H a = some (.ins Cx dx fs)) : ∀ {v : V} {d : D}, Is K H v d → d.nob = true → Is K (upd H a o) v d
  | _, _, .non, _ => .non
  | _, _, .bl b, _ => .bl b
  | _, _, .int i, _ => .int i
  | _, _, .str x, _ => .str x
  | _, _, .ty n, _ => .ty n
  | _, _, .adr n, _ => .adr n
  | _, _, .tup h t, p => .tup (h.elim (fun h => .inl (rd_put hx (fun _ _ _ z => by cases z) h)) .inr) (IsAll.put hx t (by simpa [D.nob] using p))
  | _, _, .lst h t, p => .lst (h.elim (fun h => .inl (rd_put hx (fun _ _ _ z => by cases z) h)) .inr) (IsAll.put hx t (by simpa [D.nob] using p))
  | _, _, .ins h n t, p => by simp [D.nob] at p
theorem IsAll.put {a Cx dx : Addr} {fs : List (Str × V)} {o : HO} (hx : H a = some (.ins Cx dx fs)) : ∀ {vs : List V} {l : List D}, IsAll K H vs l → nobAll l = true → IsAll K (upd H a o) vs l
  | _, _, .nil, _ => .nil
  | _, _, .cons h t, p => .cons (Is.put hx h (by simp [nobAll] at p; exact p.1)) (IsAll.put hx t (by simp [nobAll] at p; exact p.2))
end
theorem put_keys {f : Str} {v : V} : ∀ {fs : List (Str × V)}, f ∉ fs.map (·.1) → putF f v fs = fs ++ [(f, v)]
  | [], _ => rfl
  | (g, u) :: r, h => by
    have h1 : g ≠ f := fun z => h (by simp [z])
    show (if g = f then _ else _) = _
    rw [if_neg h1, put_keys (fs := r) (fun z => h (by simp at z ⊢; exact .inr z))]
    rfl
/-- the instance at a under its __init__: what it has so far -/
def ZI (K : PySem.W.Frag) (a C dx : Addr) (ns : List Str) (l : List D) : Hp → Prop := fun H => ∃ fs, H a = some (.ins C dx fs) ∧ fs.map (·.1) = ns ∧ IsAll K H (fs.map (·.2)) l
theorem ZI.mono {a C dx : Addr} {H H' : Hp} (e : Ex H H') (h : ZI K a C dx ns l H) : ZI K a C dx ns l H' := by
  obtain ⟨fs, h1, h2, h3⟩ := h
  exact ⟨fs, e _ _ h1, h2, h3.mono e⟩
theorem hid_upd {P : List Addr} {a : Addr} {o : HO} (h : a ∉ P) : hid P (upd H a o) = upd (hid P H) a o := by
  funext b
  by_cases hb : b = a
  · subst hb
    rw [hid_at h, upd_same, upd_same]
  · rw [upd_ne hb]
    unfold hid
    rw [upd_ne hb]
def nobS : Slot → Bool
  | .no => true
  | .val d => d.nob
  | .own _ l => nobAll l
theorem Env.put {a dx : Addr} {f : Str} {v : V} {σ : L2.St} {fs : List (Str × V)} (e : Env K [a] H0 (ZI K a C dx ns l) E σ H) (hE : ∀ s ∈ E, nobS s = true) (hv : Is K H v d) (im : d.im = true) (hd : d.nob = true) (hl : nobAll l = true) (hf : f ∉ ns) (ha : H a = some (.ins C dx fs)) :
    Env K [a] H0 (ZI K a C dx (ns ++ [f]) (l ++ [d])) E σ (upd H a (.ins C dx (putF f v fs))) := by
  have no : a ∉ ows E := fun m => by
    obtain ⟨xs, q⟩ := e.lsts a m
    rw [ha] at q
    cases q
  have hh : hid (ows E) H a = some (.ins C dx fs) := by rw [hid_at no]; exact ha
  refine ⟨fun b o hb q => ?_, e.inj, e.fr, e.len, fun i d' q => ?_, fun i p l' q => ?_, ?_, fun x q => q.mono x⟩
  · rw [upd_ne (fun z => hb (by simp [z]))]
    exact e.ex b o hb q
  · obtain ⟨u, h1, h2⟩ := e.val i d' q
    refine ⟨u, h1, ?_⟩
    rw [hid_upd no]
    exact h2.put hh (hE _ (List.mem_of_getElem? q))
  · obtain ⟨h1, vs, h2, h3⟩ := e.own i p l' q
    refine ⟨h1, vs, ?_, ?_⟩
    · rw [upd_ne (fun z => by subst z; rw [ha] at h2; cases h2)]
      exact h2
    · rw [hid_upd no]
      exact h3.put hh (hE _ (List.mem_of_getElem? q))
  · obtain ⟨fs', h1, h2, h3⟩ := e.pin
    rw [hh] at h1
    cases h1
    rw [hid_upd no]
    refine ⟨_, upd_same, ?_, ?_⟩
    · rw [put_keys (by rw [h2]; exact hf), List.map_append, h2]
      rfl
    · rw [put_keys (by rw [h2]; exact hf), List.map_append]
      exact (h3.put hh hl).append (.one ((hv.clean e.lsts im).put hh hd))
theorem sd_fld {a dx : Addr} {f : Str} (hs : EP K [a] H0 (ZI K a C dx ns l) ta E (.adr a)) (h : EP K [a] H0 (ZI K a C dx ns l) te E d) (c : Cls K C) (n : NoAttr K C f) (hE : ∀ s ∈ E, nobS s = true) (im : d.im = true) (hd : d.nob = true) (hl : nobAll l = true) (hf : f ∉ ns) (hz : ns.length < 1000)
    (k : SD K [a] H0 (ZI K a C dx (ns ++ [f]) (l ++ [d])) tNext De E) : SD K [a] H0 (ZI K a C dx ns l) (sFld K ta te f) De E := fun σ H e =>
  h σ H e _ fun y H1 e1 h1 => hs σ H1 (e.ext e1) _ fun v H2 e2 h2 => by
    cases h2
    have e' := e.ext (e1.trans e2)
    obtain ⟨fs, q1, q2, q3⟩ := e'.pin
    have q1' := (hid_some q1).2
    refine ⟨a, C, dx, fs, rfl, q1', c, n, ?_, k σ _ (e'.put hE (h1.mono e2) im hd hl hf q1')⟩
    have := congrArg List.length q2
    rw [List.length_map] at this
    omega
theorem env_entryI {N : List Str} {us : List V} {ds : List D} {a dx : Addr} (hx : H a = some (.ins C dx [])) (h : IsAll K H us ds) (hN : ds.length + 1 ≤ N.length) :
    Env K [a] H (ZI K a C dx [] []) (entry N (.adr a :: ds)) (start N (.ref a :: us)) H := by
  have e := env_entry (N := N) (vs := .ref a :: us) (ds := .adr a :: ds) (.cons (.adr a) h) (by simpa using hN)
  refine ⟨fun b o _ q => q, e.inj, fun i p l q => .inr ((e.fr i p l q).elim (fun z => absurd z (by simp)) id), e.len, e.val, e.own, ?_, fun x q => q.mono x⟩
  rw [ows_entry, hid_nil]
  exact ⟨[], hx, rfl, .nil⟩
end
section
variable {P : Program} {w : World} {K : PySem.W.Frag} {mg : Str → Option Value} {base : Heap}
/-- the ends of an __init__ -/
def OkI (K : PySem.W.Frag) (H : Hp) (a C dx : Addr) (ns : List Str) (l : List Y.D) (D : Ends) : Prop := ∀ E σ H', Env K [a] H (ZI K a C dx ns l) E σ H' → D.nx σ H'
theorem sd_endI {H : Hp} {a C dx : Addr} {ns : List Str} {l : List Y.D} {D : Ends} {E : List Slot} (o : OkI K H a C dx ns l D) : SD K [a] H (ZI K a C dx ns l) tNext D E := fun σ H' e => o E σ H' e
theorem init_ok {x qual : Str} {st : Stmt} {f C : Addr} {fd : FuncData} {N ps : List Str} {k : Nat} {pre : List D → List Str → List D → Prop} (F : Fun K x qual st f fd) (S : FnScope N ps (defScope st)) (len : ∀ ds ns l, pre ds ns l → ds.length + 1 = ps.length) (hN : ps.length ≤ N.length)
    (hb : ∀ (cdv : Value) (A : Around) (outer : List PySem.Env) (s : Shared) (H : Hp) (E : XK), Room k (A.deeper (PyProof.Rows.envOfC qual (defScope st) s.heap.objs.size f cdv)) →
      ∃ t, PSs (cxOf CX0 P w K mg base N qual (defScope st) f cdv A outer s H E).nox (defBody st) t ∧ ∀ ds ns l a dx, pre ds ns l → ∀ D : Ends, OkI K H a C dx ns l D → SD K [a] H (ZI K a C dx [] []) t D (entry N (.adr a :: ds))) :
    FnOk P w K mg base CX0 (k + 1) f fd ps (InitP K C pre) := by
  refine F.ok S (fun vs H Q E h => ?_) (fun cdv A outer s H vs Q E hr h => ?_)
  · obtain ⟨x, dx, us, ds, ns, l, rfl, _, h1, h2, _⟩ := h
    have := len ds ns l h2
    rw [List.length_cons, h1.length, this]
  · obtain ⟨t, ht, hs⟩ := hb cdv A outer s H E hr
    refine ⟨t, ht, ?_⟩
    obtain ⟨x, dx, us, ds, ns, l, rfl, hx, h1, h2, h3⟩ := h
    have := len ds ns l h2
    refine hs ds ns l x dx h2 _ (fun E σ H' e => ?_) _ _ (env_entryI hx h1 (by omega))
    obtain ⟨fs, q1, q2, q3⟩ := e.pin
    exact h3 H' fs (fun a o ha q => e.ex a o (by simpa using ha) q) (hid_some q1).2 q2 (q3.mono (hid_le _ _))
end
section
variable {K : PySem.W.Frag} {B : List Addr} {H0 H : Hp} {Z : Hp → Prop} {E : List Slot} {ta tb tc te : TE} {t : TT} {ea : TA} {x y z d : D} {l m : List D} {b c : Bool} {De : Ends} {tx : TS} {C : Addr} {ns : List Str} {k : Nat}
theorem ep_make {pre : List D → List Str → List D → Prop} {ex : XK} (h : EA K B H0 Z ea E l) (hp : pre l ns m) : EP K B H0 Z (tMake C (InitP K C pre) [] ex ea) E (.ins C ns m) := fun σ H e Q q =>
  h σ H e _ fun vs H1 e1 h1 => fun x dx nx ndx ne => by
    have up : Ex H1 (upd (upd H1 dx (.own x)) x (.ins C dx [])) := (Ex.new ndx).trans (Ex.new (by rw [upd_ne (Ne.symm ne)]; exact nx))
    refine ⟨x, dx, vs, l, ns, m, by rw [List.append_nil], upd_same, h1.mono up, hp, fun H' fs k hx hn hl => ⟨rfl, q _ H' (fun a o z => ?_) (.ins hx hn hl)⟩⟩
    have z1 := e1 a o z
    exact k a o (fun y => by rw [y, nx] at z1; cases z1) (up a o z1)
theorem r1_inv {pre : List D → D → Prop} (hp : pre [.ins C ns l] d) : R1d K (rInv C (Pure K pre)) (.ins C ns l) d := fun v H h Q q => by
  obtain ⟨a, dx, fs, rfl, ha, hn, hl⟩ := h.ins_inv
  exact ⟨a, dx, fs, rfl, ha, [.ins C ns l], d, .one h, hp, q⟩
theorem r2_eqO {pre : List D → D → Prop} {ns' : List Str} (hp : pre [.ins C ns l, .ins C ns' m] d) : R2d K (rEqO K C (Pure K pre)) (.ins C ns l) (.ins C ns' m) d := fun v u H h h' Q q => by
  obtain ⟨a, dx, fs, rfl, ha, hn, hl⟩ := h.ins_inv
  obtain ⟨a', dx', fs', rfl, ha', hn', hl'⟩ := h'.ins_inv
  exact ⟨a, dx, fs, a', dx', fs', rfl, rfl, ha, ha', [.ins C ns l, .ins C ns' m], d, .cons h (.one h'), hp, q⟩
theorem look_none {H : Hp} {f : Str} : ∀ {fs : List (Str × V)}, f ∉ fs.map (·.1) → fs.lookup f = none
  | [], _ => rfl
  | (n, v) :: fs, h => by
    rw [L2.lookup_put, if_neg (fun z => h (by simp [z]))]
    exact look_none (H := H) (fun z => h (by simp at z ⊢; exact .inr z))
theorem ep_meS {me : Str} {pre : List D → D → Prop} {preX : List D → Addr → Int → Prop} {W : L2.St → XK} (ho : EP K B H0 Z ta E (.ins C ns l)) (hm : me ∉ ns) (h : EA K B H0 Z ea E m) (hp : pre (.ins C ns l :: m) d) : EP K B H0 Z (tMeS C me (PureX K pre preX) W ta ea) E d := fun σ H e Q q =>
  ho σ H e _ fun v H1 e1 h1 => by
    obtain ⟨a, dx, fs, rfl, ha, hn, hl⟩ := h1.ins_inv
    refine ⟨a, dx, fs, rfl, ha, look_none (H := H1) (by rw [hn]; exact hm), h σ H1 (e.ext e1) _ fun vs H2 e2 h2 => ⟨_, .cons (h1.mono e2) h2, .inl ⟨d, hp, fun v H3 e3 h3 => q v H3 ((e1.trans e2).trans e3) h3⟩⟩⟩
theorem er_meS {me : Str} {pre : List D → D → Prop} {preX : List D → Addr → Int → Prop} {W : L2.WX} {C' : Addr} {n : Int} (ho : EP K B H0 Z ta E (.ins C ns l)) (hm : me ∉ ns) (h : EA K B H0 Z ea E m) (hp : preX (.ins C ns l :: m) C' n) (hw : WX_ K B H0 Z E W C' n) : ER K B H0 Z (tMeS C me (PureX K pre preX) (WE W) ta ea) E := fun σ H e Q =>
  ho σ H e _ fun v H1 e1 h1 => by
    obtain ⟨a, dx, fs, rfl, ha, hn, hl⟩ := h1.ins_inv
    exact ⟨a, dx, fs, rfl, ha, look_none (H := H1) (by rw [hn]; exact hm), h σ H1 (e.ext e1) _ fun vs H2 e2 h2 => ⟨_, .cons (h1.mono e2) h2, .inr ⟨C', n, hp, fun dd H3 e3 h3 => hw σ H3 (e.ext ((e1.trans e2).trans e3)) dd h3⟩⟩⟩
end
end Y
set_option Elab.async false
set_option linter.all false
set_option autoImplicit false
set_option maxRecDepth 100000
set_option maxHeartbeats 1000000
/-! Draws: a list of ints that is handed on and popped; what comes out is any int in its bounds. -/
namespace Y
open PySem L2
/-- all but p stays -/
def Drw (H H' : Hp) (p : Addr) : Prop := ∀ a o, a ≠ p → H a = some o → H' a = some o
theorem Drw.refl (H : Hp) (p : Addr) : Drw H H p := fun _ _ _ h => h
theorem Drw.trans {H H1 H2 : Hp} {p : Addr} (a : Drw H H1 p) (b : Drw H1 H2 p) : Drw H H2 p := fun x o n h => b x o n (a x o n h)
theorem Ex.drw {H H' : Hp} {p : Addr} (e : Ex H H') : Drw H H' p := fun a o _ h => e a o h
theorem Drw.hid {H H' : Hp} {p : Addr} {P : List Addr} (d : Drw H H' p) (hp : p ∈ P) : Ex (hid P H) (hid P H') := fun a o h => by
  obtain ⟨h1, h2⟩ := hid_some h
  rw [hid_at h1]
  exact d a o (fun z => h1 (z ▸ hp)) h2
abbrev iv (ns : List Int) : HO := .lst (ns.map V.int)
abbrev dr (p : Addr) (ns : List Int) : Slot := .own p (ns.map D.int)
/-- the promise of a def that draws: its first parameter is the list at p -/
def DrawP (K : PySem.W.Frag) (ok : List D → Prop) (pre : List D → D → Prop) : Sp := fun vs H Q _ => ∃ p us ds ns, vs = .ref p :: us ∧ H p = some (iv ns) ∧ IsAll K (hid [p] H) us ds ∧ ok ds ∧
  ∀ v H' d ns', Drw H H' p → H' p = some (iv ns') → Is K (hid [p] H') v d → pre ds d → Q v H'
/-- the slots by what is left of the draws: at slot i, address p -/
structure DS (S : List Int → List Slot) (i : Nat) (p : Addr) : Prop where
  at_ : ∀ ns, (S ns)[i]? = some (dr p ns)
  set : ∀ ns ns', S ns' = (S ns).set i (dr p ns')
theorem ds_ows {S : List Int → List Slot} {i : Nat} {p : Addr} (h : DS S i p) (ns ns' : List Int) : ∀ a, a ∈ ows (S ns') ↔ a ∈ ows (S ns) := by
  have one : ∀ ns ns' a, a ∈ ows (S ns') → a ∈ ows (S ns) := fun ns ns' a ha => by
    obtain ⟨j, l, hj⟩ := mem_ows.mp ha
    rw [h.set ns ns'] at hj
    rcases set_get hj with ⟨rfl, z, _⟩ | ⟨_, z⟩
    · injection z with z1 z2
      exact mem_ows.mpr ⟨_, _, z1 ▸ h.at_ ns⟩
    · exact mem_ows.mpr ⟨j, l, z⟩
  exact fun a => ⟨one ns ns' a, one ns' ns a⟩
theorem hid_ows {S : List Int → List Slot} {i : Nat} {p : Addr} (h : DS S i p) (ns ns' : List Int) (H : Hp) : hid (ows (S ns')) H = hid (ows (S ns)) H := by
  funext a
  unfold Y.hid
  simp only [ds_ows h ns ns' a]
theorem ds_in {S : List Int → List Slot} {i : Nat} {p : Addr} (h : DS S i p) (ns : List Int) : p ∈ ows (S ns) := mem_ows.mpr ⟨i, _, h.at_ ns⟩
section
variable {K : PySem.W.Frag} {B : List Addr} {H0 : Hp} {Z : Hp → Prop} {E : List Slot} {S : List Int → List Slot} {i : Nat} {p : Addr} {ta tb tc te : TE} {t u : TT} {ea : TA} {x y z d : D} {l m : List D} {b c : Bool}
theorem Env.dat {ns : List Int} {σ : L2.St} {H : Hp} (h : DS S i p) (e : Env K B H0 Z (S ns) σ H) : σ[i]? = some (some (.ref p)) ∧ H p = some (iv ns) := by
  obtain ⟨h1, vs, h2, h3⟩ := e.own i p _ (h.at_ ns)
  rw [IsAll.ints h3] at h2
  exact ⟨h1, h2⟩
theorem Env.drawn {ns ns' : List Int} {σ : L2.St} {H H' : Hp} (h : DS S i p) (e : Env K B H0 Z (S ns) σ H) (dw : Drw H H' p) (hp : H' p = some (iv ns')) : Env K B H0 Z (S ns') σ H' := by
  have hi : i < (S ns).length := (List.getElem?_eq_some_iff.mp (h.at_ ns)).1
  have hd : Ex (Y.hid (ows (S ns)) H) (Y.hid (ows (S ns')) H') := by
    rw [hid_ows h ns ns']
    exact dw.hid (ds_in h ns)
  have cases' : ∀ {j : Nat} {s : Slot}, (S ns')[j]? = some s → (i = j ∧ s = dr p ns') ∨ (i ≠ j ∧ (S ns)[j]? = some s) := fun {j s} hj => by
    rw [h.set ns ns'] at hj
    rcases set_get hj with ⟨a, b, _⟩ | q
    · exact .inl ⟨a, b.symm⟩
    · exact .inr q
  have own' : ∀ {j : Nat} {q : Addr} {l : List D}, (S ns')[j]? = some (.own q l) → ∃ l', (S ns)[j]? = some (.own q l') := fun {j q l} hj => by
    rcases cases' hj with ⟨rfl, z⟩ | ⟨_, z⟩
    · injection z with z1 z2
      exact ⟨_, z1 ▸ h.at_ ns⟩
    · exact ⟨_, z⟩
  refine ⟨fun a o hb q => ?_, fun a b q l m h1 h2 => ?_, fun a q l h1 => ?_, ?_, fun j d q => ?_, fun j q l hj => ?_, e.zm hd e.pin, e.zm⟩
  · have hap : a ≠ p := fun z => by
      rcases e.fr i p _ (h.at_ ns) with w | w
      · exact hb (by rw [z]; exact w)
      · rw [z, w] at q; cases q
    exact dw a o hap (e.ex a o hb q)
  · obtain ⟨_, z1⟩ := own' h1
    obtain ⟨_, z2⟩ := own' h2
    exact e.inj a b q _ _ z1 z2
  · obtain ⟨_, z1⟩ := own' h1
    exact e.fr a q _ z1
  · rw [e.len, h.set ns ns', List.length_set]
  · rcases cases' q with ⟨_, z⟩ | ⟨_, z⟩
    · cases z
    · obtain ⟨w, q1, q2⟩ := e.val j d z
      exact ⟨w, q1, q2.mono hd⟩
  · rcases cases' hj with ⟨rfl, z⟩ | ⟨hij, z⟩
    · injection z with z1 z2
      subst z1 z2
      exact ⟨(e.dat h).1, _, hp, isAll_ints _⟩
    · obtain ⟨q1, vs, q2, q3⟩ := e.own j q l z
      have hqp : q ≠ p := fun w => hij (e.inj i j p _ _ (h.at_ ns) (w ▸ z))
      exact ⟨q1, vs, dw _ _ hqp q2, q3.mono hd⟩
end
section
variable (K : PySem.W.Frag) (B : List Addr) (H0 : Hp) (Z : Hp → Prop)
/-- an expression that may draw: its value is one of P -/
def EN (te : TE) (S : List Int → List Slot) (p : Addr) (P : D → Prop) : Prop := ∀ ns σ H, Env K B H0 Z (S ns) σ H → ∀ Q : VK, (∀ v d ns' H', P d → Env K B H0 Z (S ns') σ H' → Drw H H' p → Is K (hid (ows (S ns)) H') v d → Q v H') → te σ H Q
def ENA (ta : TA) (S : List Int → List Slot) (p : Addr) (P : List D → Prop) : Prop := ∀ ns σ H, Env K B H0 Z (S ns) σ H → ∀ Q : List V → Hp → Prop, (∀ vs l ns' H', P l → Env K B H0 Z (S ns') σ H' → Drw H H' p → IsAll K (hid (ows (S ns)) H') vs l → Q vs H') → ta σ H Q
def ENT (t : TT) (S : List Int → List Slot) (p : Addr) (P : Bool → Prop) : Prop := ∀ ns σ H, Env K B H0 Z (S ns) σ H → ∀ Q : Bool → Hp → Prop, (∀ b ns' H', P b → Env K B H0 Z (S ns') σ H' → Drw H H' p → Q b H') → t σ H Q
/-- arguments whose values stand apart -/
def EAC (ta : TA) (E : List Slot) (l : List D) : Prop := ∀ σ H, Env K B H0 Z E σ H → ∀ Q : List V → Hp → Prop, (∀ vs H', Ex H H' → IsAll K (hid (ows E) H') vs l → Q vs H') → ta σ H Q
end
section
variable {K : PySem.W.Frag} {B : List Addr} {H0 : Hp} {Z : Hp → Prop} {E : List Slot} {S : List Int → List Slot} {i : Nat} {p : Addr} {ta tb tc te : TE} {t u : TT} {ea : TA} {x y z d : D} {l m : List D} {b c : Bool}
theorem eac_nil : EAC K B H0 Z tNil E [] := fun σ H _ Q q => q [] H (Ex.refl H) .nil
theorem eac_cons {tr : TA} (h : EC K B H0 Z te E d) (hr : EAC K B H0 Z tr E l) : EAC K B H0 Z (tCons te tr) E (d :: l) := fun σ H e Q q =>
  h σ H e _ fun v H1 e1 h1 => hr σ H1 (e.ext e1) _ fun vs H2 e2 h2 => q _ H2 (e1.trans e2) (.cons (h1.mono (hid_ex e2)) h2)
theorem ec_int {k : Int} : EC K B H0 Z (tC (.int k)) E (.int k) := ec_im ep_int rfl
theorem new_no {σ : L2.St} {H : Hp} {q : Addr} (e : Env K B H0 Z E σ H) (nq : H q = none) : q ∉ ows E := fun m => by
  obtain ⟨xs, w⟩ := e.lsts q m
  rw [nq] at w
  cases w
/-- [a, b, ..] of anything -/
theorem ec_lst (h : EAC K B H0 Z ea E l) (hl : l.length ≤ 100000 := by simp) : EC K B H0 Z (tLst ea) E (.lst l) := fun σ H e Q q =>
  h σ H e _ fun vs H1 e1 h1 => ⟨by rw [h1.length, sizeLine_eq]; omega, fun a na => q _ _ (e1.trans (Ex.new na)) (.lst (SqL.of (by rw [hid_at (new_no (e.ext e1) na)]; exact upd_same)) (h1.mono (hid_ex (Ex.new na))))⟩
theorem ec_ixL {k : Int} (h : EC K B H0 Z ta E (.lst l)) (hk : atI l k = some d) : EC K B H0 Z (tOp (rIxL K) ta (tC (.int k))) E d := fun σ H e Q q =>
  h σ H e _ fun v H1 e1 h1 => by
    cases h1 with
    | lst hq ht =>
      rename_i a xs
      have hl := ht.length
      obtain ⟨j, hj1, hj2⟩ := Option.bind_eq_some_iff.mp hk
      obtain ⟨v, hv, hv2⟩ := ht.getD hj2
      exact ⟨a, xs, k, v, rfl, rfl, sqL_ex (hid_le _ _) hq, Option.bind_eq_some_iff.mpr ⟨j, by rw [hl]; exact hj1, hv⟩, q v H1 e1 hv2⟩
theorem en_ec {P : D → Prop} (h : ∀ ns, EC K B H0 Z te (S ns) d) (hd : DS S i p) (hP : P d) : EN K B H0 Z te S p P := fun ns σ H e Q q => h ns σ H e Q fun v H' x h1 => q v d ns H' hP (e.ext x) x.drw h1
theorem en_weak {P P' : D → Prop} (h : EN K B H0 Z te S p P) (hw : ∀ d, P d → P' d) : EN K B H0 Z te S p P' := fun ns σ H e Q q => h ns σ H e Q fun v d ns' H' hp => q v d ns' H' (hw d hp)
theorem drw_is {ns : List Int} {v : V} {H H' : Hp} (hd : DS S i p) (dw : Drw H H' p) (h : Is K (hid (ows (S ns)) H) v d) : Is K (hid (ows (S ns)) H') v d := h.mono (dw.hid (ds_in hd ns))
theorem drw_isA {ns : List Int} {vs : List V} {H H' : Hp} (hd : DS S i p) (dw : Drw H H' p) (h : IsAll K (hid (ows (S ns)) H) vs l) : IsAll K (hid (ows (S ns)) H') vs l := h.mono (dw.hid (ds_in hd ns))
theorem ena_nil (hd : DS S i p) {P : List D → Prop} (hP : P []) : ENA K B H0 Z tNil S p P := fun ns σ H e Q q => q [] [] ns H hP e (Drw.refl H p) .nil
theorem ena_cons {tr : TA} {P1 : D → Prop} {P2 : D → List D → Prop} {P : List D → Prop} (hd : DS S i p) (h : EN K B H0 Z te S p P1) (hr : ∀ d, P1 d → ENA K B H0 Z tr S p (P2 d)) (hP : ∀ d l, P1 d → P2 d l → P (d :: l)) : ENA K B H0 Z (tCons te tr) S p P := fun ns σ H e Q q =>
  h ns σ H e _ fun v d ns1 H1 p1 e1 w1 h1 => hr d p1 ns1 σ H1 e1 _ fun vs l ns2 H2 p2 e2 w2 h2 => q _ (d :: l) ns2 H2 (hP d l p1 p2) e2 (w1.trans w2) (.cons (drw_is hd w2 h1) (by rw [hid_ows hd ns ns1] at h2; exact h2))
theorem en_op {r : R2} {P1 : D → Prop} {P2 : D → D → Prop} {P : D → Prop} (hd : DS S i p) (ha : EN K B H0 Z ta S p P1) (hb : ∀ x, P1 x → EN K B H0 Z tb S p (P2 x)) (hr : ∀ x y, P1 x → P2 x y → ∃ z, R2d K r x y z ∧ z.im = true ∧ P z) : EN K B H0 Z (tOp r ta tb) S p P := fun ns σ H e Q q =>
  ha ns σ H e _ fun v x ns1 H1 p1 e1 w1 h1 => hb x p1 ns1 σ H1 e1 _ fun u y ns2 H2 p2 e2 w2 h2 => by
    obtain ⟨z, hz, im, pz⟩ := hr x y p1 p2
    refine hz v u H2 ((drw_is hd w2 h1).mono (hid_le _ _)) (h2.mono (hid_le _ _)) Q fun o H3 x3 h3 => q o z ns2 H3 pz (e2.ext x3) ((w1.trans w2).trans x3.drw) ?_
    rw [← hid_ows hd ns ns2]
    exact h3.clean (e2.ext x3).lsts im
/-- a def that draws, called -/
theorem en_draw {tr : TA} {ok : List D → Prop} {pre : List D → D → Prop} {P : D → Prop} {ex : XK} (hd : DS S i p) (h : ∀ ns, EAC K B H0 Z tr (S ns) l) (hok : ok l) (hP : ∀ d, pre l d → P d) (him : (∀ d, pre l d → d.im = true) ∨ ∀ ns, ows (S ns) = [p]) :
    EN K B H0 Z (tCall (DrawP K ok pre) [] ex (tCons (tVar i) tr)) S p P := fun ns σ H e Q q => by
  obtain ⟨s1, s2⟩ := e.dat hd
  refine ⟨.ref p, s1, h ns σ H e _ fun vs H1 e1 h1 => ?_⟩
  refine ⟨p, vs, l, ns, by simp, e1 _ _ s2, h1.mono (hid_sub fun a ha => by simp at ha; rw [ha]; exact ds_in hd ns), hok, fun v H' d ns' w hp hv hpre => ?_⟩
  have e' := (e.ext e1).drawn hd w hp
  refine q v d ns' H' (hP d hpre) e' (e1.drw.trans w) ?_
  rcases him with hi | hi
  · have hc := (hv.mono (hid_le _ _)).clean e'.lsts (hi d hpre)
    rwa [hid_ows hd ns ns'] at hc
  · rw [hi ns]
    exact hv
theorem en_callP {ex : XK} {pre : List D → D → Prop} {PA : List D → Prop} {P : D → Prop} (hd : DS S i p) (h : ENA K B H0 Z ea S p PA) (hp : ∀ l, PA l → ∃ d, pre l d ∧ d.im = true ∧ P d) : EN K B H0 Z (tCall (Pure K pre) [] ex ea) S p P := fun ns σ H e Q q =>
  h ns σ H e _ fun vs l ns1 H1 p1 e1 w1 h1 => by
    obtain ⟨d, hd1, im, pd⟩ := hp l p1
    refine ⟨l, d, by rw [List.append_nil]; exact h1.mono (hid_le _ _), hd1, fun v H2 e2 h2 => q v d ns1 H2 pd (e1.ext e2) (w1.trans e2.drw) ?_⟩
    rw [← hid_ows hd ns ns1]
    exact h2.clean (e1.ext e2).lsts im
theorem en_callF {ex : XK} {pre : List D → List D → Prop} {PA : List D → Prop} {P : D → Prop} (hd : DS S i p) (h : ENA K B H0 Z ea S p PA) (hp : ∀ l, PA l → ∃ m, pre l m ∧ imAll m = true ∧ P (.lst m)) : EN K B H0 Z (tCall (Fresh K pre) [] ex ea) S p P := fun ns σ H e Q q =>
  h ns σ H e _ fun vs l ns1 H1 p1 e1 w1 h1 => by
    obtain ⟨m, hd1, im, pd⟩ := hp l p1
    refine ⟨l, m, by rw [List.append_nil]; exact h1.mono (hid_le _ _), hd1, fun a ws H2 na e2 ha h2 => q _ (.lst m) ns1 H2 pd (e1.ext e2) (w1.trans e2.drw) ?_⟩
    rw [← hid_ows hd ns ns1]
    exact .lst (SqL.of (by rw [hid_at (new_no e1 na)]; exact ha)) (h2.clean (e1.ext e2).lsts im)
theorem en_lst {PA : List D → Prop} {P : D → Prop} (hd : DS S i p) (h : ENA K B H0 Z ea S p PA) (hl : ∀ l, PA l → l.length ≤ 100000) (hP : ∀ l, PA l → P (.lst l)) : EN K B H0 Z (tLst ea) S p P := fun ns σ H e Q q =>
  h ns σ H e _ fun vs l ns1 H1 p1 e1 w1 h1 => ⟨by rw [h1.length, sizeLine_eq]; have := hl l p1; omega, fun a na => q _ (.lst l) ns1 _ (hP l p1) (e1.ext (Ex.new na)) (w1.trans (Ex.new na).drw) (.lst (SqL.of (by
    rw [← hid_ows hd ns ns1, hid_at (new_no e1 na)]
    exact upd_same)) (h1.mono (hid_ex (Ex.new na))))⟩
/-! ### tests, statements, a def that draws -/
variable {De : Ends} {tx ty : TS}
theorem ent_ev {P1 : D → Prop} {P : Bool → Prop} (h : EN K B H0 Z te S p P1) (hp : ∀ d, P1 d → ∃ b, d = .bl b ∧ P b) : ENT K B H0 Z (tTest te) S p P := fun ns σ H e Q q =>
  h ns σ H e _ fun v d ns' H' p1 e1 w1 h1 => by
    obtain ⟨b, rfl, pb⟩ := hp d p1
    cases h1
    exact ⟨b, rfl, q b ns' H' pb e1 w1⟩
theorem ent_et {P : Bool → Prop} (h : ∀ ns, ET K B H0 Z t (S ns) b) (hP : P b) : ENT K B H0 Z t S p P := fun ns σ H e Q q => h ns σ H e Q fun H' x => q b ns H' hP (e.ext x) x.drw
theorem ent_or {P1 P2 P : Bool → Prop} (h1 : ENT K B H0 Z t S p P1) (h2 : ENT K B H0 Z u S p P2) (hP : (P1 true → P true) ∧ ∀ b, P1 false → P2 b → P b) : ENT K B H0 Z (tOr t u) S p P := fun ns σ H e Q q =>
  h1 ns σ H e _ fun b ns1 H1 p1 e1 w1 => by
    cases b with
    | true => exact q true ns1 H1 (hP.1 p1) e1 w1
    | false => exact h2 ns1 σ H1 e1 _ fun b ns2 H2 p2 e2 w2 => q b ns2 H2 (hP.2 b p1 p2) e2 (w1.trans w2)
theorem sd_asgN {j : Nat} {P : D → Prop} (hd : DS S i p) (h : EN K B H0 Z te S p P) (k : ∀ d ns, P d → SD K B H0 Z tNext De ((S ns).set j (.val d))) : ∀ ns, SD K B H0 Z (tAsg te (gName j)) De (S ns) := fun ns σ H e =>
  h ns σ H e _ fun v d ns1 H1 p1 e1 w1 h1 => k d ns1 p1 _ H1 (e1.setC (by rw [hid_ows hd ns ns1]; exact h1))
theorem sd_ifN {P : Bool → Prop} (h : ENT K B H0 Z t S p P) (h1 : P true → ∀ ns, SD K B H0 Z tx De (S ns)) (h2 : P false → ∀ ns, SD K B H0 Z ty De (S ns)) : ∀ ns, SD K B H0 Z (tIfS t tx ty) De (S ns) := fun ns σ H e =>
  h ns σ H e _ fun b ns1 H1 p1 e1 w1 => by
    cases b with
    | true => exact h1 p1 ns1 σ H1 e1
    | false => exact h2 p1 ns1 σ H1 e1
/-- for _ in range(..), the bound drawn -/
theorem sd_forN {j : Nat} {tu : TS} {P : Int → Prop} (hd : DS S i p) (h : EN K B H0 Z te S p (fun d => ∃ n : Int, d = .int n ∧ P n ∧ 0 ≤ n ∧ n ≤ 100000)) (W : Nat → List Slot → Prop)
    (h0 : ∀ ns, W 0 (S ns)) (hs : ∀ (n : Int) (k : Nat) E, P n → (k : Int) < n → W k E → SD K B H0 Z tu (LW K B H0 Z De (W (k + 1))) (E.set j (.val (.int k)))) (hdn : ∀ n E, P n → 0 ≤ n → W n.toNat E → SD K B H0 Z tNext De E) :
    ∀ ns, SD K B H0 Z (tFor (iRng1 (tCons te tNil)) (gName j) tu) De (S ns) := fun ns σ H e =>
  h ns σ H e _ fun v d ns1 H1 p1 e1 w1 h1 => by
    obtain ⟨n, rfl, pn, n0, n1⟩ := p1
    cases h1
    refine ⟨n, rfl, by omega, by omega, for_range (lo := 0) (n := n.toNat) (fun k σ' H' => ∃ E, W k E ∧ Env K B H0 Z E σ' H') ⟨S ns1, h0 ns1, e1⟩ (fun k σ' H' hk ⟨E1, pi, q⟩ => ?_) (fun σ' H' ⟨E1, pi, q⟩ => hdn n E1 pn n0 pi _ _ q)⟩
    have e0 : (0 : Int) + (k : Int) = (k : Int) := Int.zero_add _
    show tu _ (σ'.set j (some (.int ((0 : Int) + (k : Int))))) H'
    rw [e0]
    exact hs n k E1 pn (by omega) pi _ _ (q.set (.int _) rfl)
end
/-- the ends of a def that draws -/
def OkD (K : PySem.W.Frag) (H : Hp) (p : Addr) (pre : D → Prop) (De : Ends) : Prop := ∀ v H' d ns', Drw H H' p → H' p = some (iv ns') → Is K (hid [p] H') v d → pre d → De.rt v H'
section
variable {K : PySem.W.Frag} {H0 : Hp} {Z : Hp → Prop} {S : List Int → List Slot} {i : Nat} {p : Addr} {te : TE} {d : D} {l : List D} {De : Ends} {pre : D → Prop}
theorem env_drw {ns : List Int} {σ : L2.St} {H : Hp} (hd : DS S i p) (e : Env K [p] H0 Z (S ns) σ H) : Drw H0 H p ∧ H p = some (iv ns) := ⟨fun a o n q => e.ex a o (by simpa using n) q, (e.dat hd).2⟩
theorem hid_one {ns : List Int} {H : Hp} (hd : DS S i p) : Ex (hid (ows (S ns)) H) (hid [p] H) := hid_sub fun a ha => by simp at ha; rw [ha]; exact ds_in hd ns
theorem sd_retD {ns : List Int} (hd : DS S i p) (h : EC K [p] H0 Z te (S ns) d) (o : OkD K H0 p pre De) (hp : pre d) : SD K [p] H0 Z (tRet te) De (S ns) := fun σ H e =>
  h σ H e _ fun v H1 e1 h1 => by
    obtain ⟨w1, w2⟩ := env_drw hd (e.ext e1)
    exact o v H1 d ns w1 w2 (h1.mono (hid_one hd)) hp
theorem sd_retDN {P : D → Prop} (hd : DS S i p) (h : EN K [p] H0 Z te S p P) (o : OkD K H0 p pre De) (hp : ∀ d, P d → pre d) : ∀ ns, SD K [p] H0 Z (tRet te) De (S ns) := fun ns σ H e =>
  h ns σ H e _ fun v d ns1 H1 p1 e1 _ h1 => by
    obtain ⟨w1, w2⟩ := env_drw hd e1
    exact o v H1 d ns1 w1 w2 (h1.mono (hid_one hd)) (hp d p1)
/-- an own list is handed back -/
theorem sd_retDO {ns : List Int} {j : Nat} {q : Addr} (hd : DS S i p) (hj : (S ns)[j]? = some (.own q l)) (hij : i ≠ j) (o : OkD K H0 p pre De) (hp : pre (.lst l)) : SD K [p] H0 Z (tRet (tVar j)) De (S ns) := fun σ H e => by
  obtain ⟨h1, vs, h2, h3⟩ := e.own j q l hj
  obtain ⟨w1, w2⟩ := env_drw hd e
  have hqp : q ≠ p := fun z => hij (e.inj i j p _ _ (hd.at_ ns) (z ▸ hj))
  exact ⟨_, h1, o _ H _ ns w1 w2 (.lst (SqL.of (by rw [hid_at (by simpa using hqp)]; exact h2)) (h3.mono (hid_one hd))) hp⟩
/-- the entry -/
def entryD (N : List Str) (p : Addr) (ds : List D) (ns : List Int) : List Slot := dr p ns :: (ds.map .val ++ List.replicate (N.length - (ds.length + 1)) .no)
theorem ds_entry (N : List Str) (p : Addr) (ds : List D) : DS (entryD N p ds) 0 p := ⟨fun _ => rfl, fun _ _ => rfl⟩
theorem ows_entryD (N : List Str) (p : Addr) (ds : List D) (ns : List Int) : ows (entryD N p ds ns) = [p] := by
  unfold entryD
  show p :: ows _ = [p]
  congr 1
  refine List.eq_nil_iff_forall_not_mem.mpr fun q hq => ?_
  obtain ⟨j, l, h⟩ := mem_ows.mp hq
  rcases List.mem_append.mp (List.mem_of_getElem? h) with h | h
  · obtain ⟨_, _, h⟩ := List.mem_map.mp h
    cases h
  · have := (List.mem_replicate.mp h).2
    cases this
theorem env_entryD {N : List Str} {us : List V} {ds : List D} {H : Hp} {ns : List Int} (hp : H p = some (iv ns)) (h : IsAll K (hid [p] H) us ds) (hN : ds.length + 1 ≤ N.length) : Env K [p] H (fun _ => True) (entryD N p ds ns) (start N (.ref p :: us)) H := by
  have hl := h.length
  have own1 : ∀ {j : Nat} {q : Addr} {l : List D}, (entryD N p ds ns)[j]? = some (.own q l) → j = 0 ∧ q = p ∧ l = ns.map D.int := fun {j q l} hj => by
    cases j with
    | zero =>
      have : dr p ns = .own q l := Option.some.inj hj
      injection this with a b
      exact ⟨rfl, a.symm, b.symm⟩
    | succ j =>
      have hj' : (ds.map Slot.val ++ List.replicate (N.length - (ds.length + 1)) .no)[j]? = some (.own q l) := hj
      rcases List.mem_append.mp (List.mem_of_getElem? hj') with h | h
      · obtain ⟨_, _, h⟩ := List.mem_map.mp h
        cases h
      · have := (List.mem_replicate.mp h).2
        cases this
  refine ⟨fun a o _ q => q, fun a b q l m h1 h2 => by rw [(own1 h1).1, (own1 h2).1], fun a q l h1 => .inl (by rw [(own1 h1).2.1]; simp), ?_, fun j d q => ?_, fun j q l hj => ?_, trivial, fun _ _ => trivial⟩
  · simp [L2.start, entryD, hl]
  · cases j with
    | zero =>
      have : dr p ns = .val d := Option.some.inj q
      cases this
    | succ j =>
      have hj' : (ds.map Slot.val ++ List.replicate (N.length - (ds.length + 1)) .no)[j]? = some (.val d) := q
      rw [ows_entryD]
      by_cases hi : j < ds.length
      · rw [List.getElem?_append_left (by simpa using hi), List.getElem?_map] at hj'
        cases e : ds[j]? with
        | none => rw [e] at hj'; cases hj'
        | some d' =>
          rw [e] at hj'
          have : d' = d := by simpa using hj'
          subst this
          obtain ⟨v, h1, h2⟩ := h.getD e
          refine ⟨v, ?_, h2⟩
          unfold L2.start
          rw [List.getElem?_append_left (by simp [hl]; omega), List.getElem?_map, List.getElem?_cons_succ, h1]
          rfl
      · rw [List.getElem?_append_right (by simpa using hi)] at hj'
        have := (List.mem_replicate.mp (List.mem_of_getElem? hj')).2
        cases this
  · obtain ⟨rfl, rfl, rfl⟩ := own1 hj
    refine ⟨rfl, _, hp, isAll_ints _⟩
end
section
variable {P : Program} {w : World} {K : PySem.W.Frag} {mg : Str → Option Value} {base : Heap}
theorem draw_ok {x qual : Str} {st : Stmt} {f : Addr} {fd : FuncData} {N ps : List Str} {k : Nat} {ok : List D → Prop} {pre : List D → D → Prop} (F : Fun K x qual st f fd) (S : FnScope N ps (defScope st)) (len : ∀ ds, ok ds → ds.length + 1 = ps.length) (hN : ps.length ≤ N.length)
    (hb : ∀ (cdv : Value) (A : Around) (outer : List PySem.Env) (s : Shared) (H : Hp) (E : XK), Room k (A.deeper (PyProof.Rows.envOfC qual (defScope st) s.heap.objs.size f cdv)) →
      ∃ t, PSs (cxOf CX0 P w K mg base N qual (defScope st) f cdv A outer s H E).nox (defBody st) t ∧ ∀ ds p, ok ds → ∀ D : Ends, OkD K H p (pre ds) D → (pre ds .non → ∀ σ H' ns', Drw H H' p → H' p = some (iv ns') → D.nx σ H') → ∀ ns, SD K [p] H (fun _ => True) t D (entryD N p ds ns)) :
    FnOk P w K mg base CX0 (k + 1) f fd ps (DrawP K ok pre) := by
  refine F.ok S (fun vs H Q E h => ?_) (fun cdv A outer s H vs Q E hr h => ?_)
  · obtain ⟨p, us, ds, ns, rfl, _, h1, h2, _⟩ := h
    have := len ds h2
    rw [List.length_cons, h1.length, this]
  · obtain ⟨t, ht, hs⟩ := hb cdv A outer s H E hr
    refine ⟨t, ht, ?_⟩
    obtain ⟨p, us, ds, ns, rfl, hp, h1, h2, h3⟩ := h
    have := len ds h2
    exact hs ds p h2 _ (fun v H' d ns' a b c e => h3 v H' d ns' a b c e) (fun hn σ H' ns' a b => h3 .non H' .non ns' a b .non hn) ns _ _ (env_entryD hp h1 (by omega))
end
end Y
set_option Elab.async false
set_option linter.all false
set_option autoImplicit false
set_option maxRecDepth 100000
set_option maxHeartbeats 1000000
/-! A comprehension over a range whose test draws; xs.append(ys.pop(drawn)). -/
namespace Y
open PySem L2
/-- a number as a value -/
def vN (n : Nat) : V := .int (n : Int)
/-- a test that does nothing but draw -/
def DT (tt : TT) (i : Nat) (p : Addr) : Prop := ∀ σ H ns, σ[i]? = some (some (.ref p)) → H p = some (iv ns) → ∀ Q : Bool → Hp → Prop, (∀ b H' ns', Drw H H' p → H' p = some (iv ns') → Q b H') → tt σ H Q
section
variable {K : PySem.W.Frag} {B : List Addr} {H0 : Hp} {Z : Hp → Prop} {E : List Slot} {S : List Int → List Slot} {i : Nat} {p : Addr} {ta tb tc te : TE} {t u : TT} {ea : TA} {x y z d : D} {l m : List D} {b c : Bool} {De : Ends}
theorem isAll_iD {H : Hp} : ∀ (xs : List Nat), IsAll K H (xs.map vN) (xs.map iD)
  | [] => .nil
  | x :: xs => .cons (.int _) (isAll_iD xs)
/-- [x for x in range(n) if a draw] -/
theorem en_lcD {j : Nat} {n : Int} (hd : DS S i p) (hij : i ≠ j) (hj : ∀ ns, j < (S ns).length) (h : ∀ ns, EA K B H0 Z ea (S ns) [.int n]) (hn : 0 ≤ n ∧ n < 100000) (ht : DT t i p) :
    EN K B H0 Z (tLc (iRng1 ea) (gName j) t (tVar j) [j]) S p (fun d => ∃ xs : List Nat, xs.Pairwise (· < ·) ∧ (∀ x ∈ xs, (x : Int) < n) ∧ d = .lst (xs.map iD)) := fun ns σ H e Q q =>
  h ns σ H e _ fun vs H1 e1 h1 => by
    have e' := e.ext e1
    obtain ⟨sp, hp⟩ := e'.dat hd
    have : vs = [.int n] := by
      cases h1 with
      | cons a t => cases a; cases t; rfl
    subst this
    refine ⟨n, rfl, by omega, by omega, fun a na => ?_⟩
    have ap : a ≠ p := fun z => by rw [z, hp] at na; cases na
    have hjl : j < σ.length := by rw [e.len]; exact hj ns
    refine lc_range (lo := 0) (n := n.toNat) (fun k H' => ∃ (ns' : List Int) (xs : List Nat), H' a = some (.lst (xs.map vN)) ∧ xs.Pairwise (· < ·) ∧ (∀ x ∈ xs, x < k) ∧ xs.length ≤ k ∧ H' p = some (iv ns') ∧ ∀ b o, b ≠ p → b ≠ a → H1 b = some o → H' b = some o) ?_ ?_ ?_
    · exact ⟨ns, [], upd_same, .nil, by simp, by simp, by rw [upd_ne (Ne.symm ap)]; exact hp, fun b o _ hb z => by rw [upd_ne hb]; exact z⟩
    · rintro k H2 hk ⟨ns', xs, c1, c2, c3, c4, c5, c6⟩
      have e0 : (0 : Int) + (k : Int) = (k : Int) := Int.zero_add _
      rw [e0]
      show wipe ((wipe σ [j]).set j (some (.int k))) [j] = wipe σ [j] ∧ _
      refine ⟨wipe1 σ j _, ?_⟩
      have sp2 : ((wipe σ [j]).set j (some (.int k)))[i]? = some (some (.ref p)) := by
        show ((σ.set j none).set j (some (.int k)))[i]? = _
        rw [List.getElem?_set_ne (Ne.symm hij), List.getElem?_set_ne (Ne.symm hij)]
        exact sp
      refine ht _ H2 ns' sp2 c5 _ fun b H3 ns3 w3 hp3 => ?_
      cases b with
      | false => exact ⟨ns3, xs, w3 _ _ ap c1, c2, fun x hx => Nat.lt_succ_of_lt (c3 x hx), Nat.le_succ_of_le c4, hp3, fun b o hb ha z => w3 _ _ hb (c6 b o hb ha z)⟩
      | true =>
        rw [if_pos rfl]
        refine ⟨.int k, ?_, _, w3 _ _ ap c1, ?_, ns3, xs ++ [k], ?_, ?_, ?_, ?_, ?_, ?_⟩
        · show ((σ.set j none).set j (some (.int k)))[j]? = _
          rw [List.getElem?_set_self (by simpa using hjl)]
        · rw [List.length_map, sizeLine_eq]; omega
        · rw [upd_same, List.map_append]; rfl
        · exact List.pairwise_append.mpr ⟨c2, by simp, fun x hx y hy => by simp at hy; rw [hy]; exact c3 x hx⟩
        · intro x hx
          rcases List.mem_append.mp hx with hx | hx
          · exact Nat.lt_succ_of_lt (c3 x hx)
          · simp at hx; omega
        · simp; omega
        · rw [upd_ne (Ne.symm ap)]; exact hp3
        · intro b o hb ha z
          rw [upd_ne ha]
          exact w3 _ _ hb (c6 b o hb ha z)
    · rintro H2 ⟨ns', xs, c1, c2, c3, c4, c5, c6⟩
      have dw : Drw H1 H2 p := fun b o hb z => c6 b o hb (fun w => by rw [w, na] at z; cases z) z
      refine q _ _ ns' H2 ⟨xs, c2, fun x hx => by have := c3 x hx; omega, rfl⟩ (e'.drawn hd dw c5) (e1.drw.trans dw) (.lst (SqL.of ?_) (isAll_iD xs))
      rw [hid_at (new_no e' na)]
      exact c1
theorem ers_map {α β : Type} (f : α → β) : ∀ (l : List α) (x : Nat), (l.map f).eraseIdx x = (l.eraseIdx x).map f
  | [], _ => rfl
  | _ :: _, 0 => rfl
  | a :: l, x + 1 => by
    show f a :: (l.map f).eraseIdx x = f a :: (l.eraseIdx x).map f
    rw [ers_map f l x]
theorem ints_vN {H : Hp} : ∀ {vs : List V} {l : List Nat}, IsAll K H vs (l.map iD) → vs = l.map vN
  | _, [], .nil => rfl
  | _, n :: ns, .cons h t => by
    cases h
    rw [ints_vN t]
    rfl
theorem sd_appPop {jl jn : Nat} {q1 q2 : Addr} {left names : List Nat} (hd : DS S i p) (h1 : ∀ ns, (S ns)[jl]? = some (.own q1 (left.map iD))) (h2 : ∀ ns, (S ns)[jn]? = some (.own q2 (names.map iD))) (hne : jl ≠ jn) (he : EN K B H0 Z te S p (fun d => ∃ x, x < left.length ∧ d = iD x))
    (hz : names.length < 20000 ∧ left.length < 20000) (k : ∀ ns x (hx : x < left.length), SD K B H0 Z tNext De (((S ns).set jl (.own q1 ((left.eraseIdx x).map iD))).set jn (.own q2 ((names ++ [left[x]]).map iD)))) :
    ∀ ns, SD K B H0 Z (tDrop (tBM K "list" rAppend (tVar jn) (tCons (tBM K "list" rPopAt (tVar jl) (tCons te tNil)) tNil))) De (S ns) := fun ns σ H e => by
  obtain ⟨s2, vs2, c2, _⟩ := e.own jn q2 _ (h2 ns)
  obtain ⟨s1, vs1, c1, _⟩ := e.own jl q1 _ (h1 ns)
  refine ⟨.ref q2, s2, .inl ⟨rfl, _, SqL.of c2⟩, .ref q1, s1, .inl ⟨rfl, _, SqL.of c1⟩, he ns σ H e _ fun v d ns1 H1 p1 e1 w1 hv => ?_⟩
  obtain ⟨x, hx, rfl⟩ := p1
  cases hv
  obtain ⟨_, vs3, c3, c4⟩ := e1.own jl q1 _ (h1 ns1)
  rw [ints_vN c4] at c3
  have hix : ixN (left.map vN).length (x : Int) = some x := by
    unfold ixN
    rw [List.length_map, if_pos (by omega), if_pos (by omega)]
    simp
  have hy : (left.map vN)[x]? = some (vN left[x]) := by rw [List.getElem?_map, List.getElem?_eq_getElem hx]; rfl
  refine ⟨q1, left.map vN, x, x, vN left[x], rfl, rfl, c3, by omega, by omega, (ixN_seq hix).1, hy, ?_⟩
  have ee : (left.map vN).eraseIdx x = (left.eraseIdx x).map vN := ers_map vN left x
  rw [ee]
  have e2 := e1.chg (l' := (left.eraseIdx x).map iD) (vs' := (left.eraseIdx x).map vN) (h1 ns1) (isAll_iD _)
  have g2 : ((S ns1).set jl (.own q1 ((left.eraseIdx x).map iD)))[jn]? = some (.own q2 (names.map iD)) := by rw [List.getElem?_set_ne hne]; exact h2 ns1
  obtain ⟨_, vs5, c5, c6⟩ := e2.own jn q2 _ g2
  rw [ints_vN c6] at c5
  refine ⟨q2, names.map vN, vN left[x], rfl, rfl, c5, by rw [List.length_map, sizeLine_eq]; omega, ?_⟩
  have e3 := e2.chg (l' := (names ++ [left[x]]).map iD) (vs' := (names ++ [left[x]]).map vN) g2 (isAll_iD _)
  have := k ns1 x hx σ _ e3
  rw [List.map_append] at this
  exact this
end
end Y
set_option Elab.async false
set_option linter.all false
set_option autoImplicit false
set_option maxRecDepth 100000
set_option maxHeartbeats 1000000
/-! [..] + drawn[i:j]. -/
namespace Y
open PySem L2
section
variable {K : PySem.W.Frag} {B : List Addr} {H0 : Hp} {Z : Hp → Prop} {E : List Slot} {S : List Int → List Slot} {i : Nat} {p : Addr} {ta tb tc te : TE} {l m : List D}
theorem en_catS {a b : Int} {P1 : List D → Prop} {P : D → Prop} (hd : DS S i p) (ha : ∀ ns, EF K B H0 Z ta (S ns) m) (him : imAll m = true) (h : EN K B H0 Z te S p (fun d => ∃ l, d = .lst l ∧ P1 l)) (hz : m.length ≤ 20000 ∧ ∀ l, P1 l → l.length ≤ 20000) (hp : ∀ l l', P1 l → l'.Sublist l → P (.lst (m ++ l'))) :
    EN K B H0 Z (tOp rCat ta (tSl (rSlL K) te (tPart (tC (.int a))) (tPart (tC (.int b))))) S p P := fun ns σ H e Q q =>
  ha ns σ H e _ fun r vs H1 nr e1 hr ir => by
    have e' := e.ext e1
    have rp : r ≠ p := fun z => by
      have := e1 _ _ (e.dat hd).2
      have h0 := (e.dat hd).2
      rw [← z, nr] at h0
      cases h0
    have rno : r ∉ ows (S ns) := new_no e nr
    have ir' : IsAll K (hid (ows (S ns)) H1) vs m := ir.clean e'.lsts him
    refine h ns σ H1 e' _ fun v d ns2 H2 p2 e2 w2 h2 => ?_
    obtain ⟨l, rfl, pl⟩ := p2
    cases h2 with
    | lst hq ht =>
      rename_i x xs
      refine ⟨a, rfl, b, rfl, x, xs, rfl, sqL_ex (hid_le _ _) hq, fun y ny => ?_⟩
      have hr2 : H2 r = some (.lst vs) := w2 _ _ rp hr
      have ex3 : Ex H2 (upd H2 y (.lst (cutV xs (some a) (some b)))) := Ex.new ny
      have hc : ∃ l', l'.Sublist l ∧ IsAll K (hid (ows (S ns)) H2) (cutV xs (some a) (some b)) l' := ⟨_, (List.take_sublist _ _).trans (List.drop_sublist _ _), (ht.drop _).take _⟩
      obtain ⟨l', hl', hc⟩ := hc
      have hlen : l'.length ≤ 20000 := Nat.le_trans hl'.length_le (hz.2 l pl)
      refine ⟨r, y, vs, cutV xs (some a) (some b), rfl, rfl, ex3 _ _ hr2, upd_same, by rw [ir.length, hc.length, sizeLine_eq]; have := hz.1; omega, fun z nz => ?_⟩
      have ex4 := ex3.trans (Ex.new (o := .lst (vs ++ cutV xs (some a) (some b))) nz)
      have e4 := e2.ext ex4
      have zno : z ∉ ows (S ns) := fun hm => new_no (e2.ext ex3) nz ((ds_ows hd ns ns2 z).mpr hm)
      refine q _ (.lst (m ++ l')) ns2 _ (hp l l' pl hl') e4 ((e1.drw.trans w2).trans ex4.drw) (.lst (SqL.of (by rw [hid_at zno]; exact upd_same)) ?_)
      exact ((ir'.mono (w2.hid (ds_in hd ns))).append hc).mono (hid_ex ex4)
end
end Y
set_option autoImplicit false
/-! What is drawn: lots over n things, none within another, in order. -/
namespace KM
theorem sortN_mem {l : T} {x : Nat} : x ∈ sortN l ↔ x ∈ l := (sortN_perm l).mem_iff
theorem sortN_le (l : T) : (sortN l).Pairwise (· ≤ ·) := by
  have h := List.pairwise_mergeSort (le := fun (a b : Nat) => decide (a ≤ b)) (fun a b c h1 h2 => by simp at *; omega) (fun a b => by simp; omega) l
  exact h.imp fun h => by simpa using h
theorem sortN_nd {l : T} (h : l.Nodup) : Asc (sortN l) := by
  have nd : (sortN l).Nodup := (sortN_perm l).nodup_iff.mpr h
  have := List.Pairwise.and (sortN_le l) nd
  exact this.imp fun {a b} h => by omega
/-- the lots of a small family -/
structure GF (n : Nat) (ls : List T) : Prop where
  n1 : 1 ≤ n
  ne : ls ≠ []
  g : Good ls
  lne : ∀ l ∈ ls, l ≠ []
  lt : ∀ l ∈ ls, ∀ x ∈ l, x < n
theorem GF.up {n m : Nat} {ls : List T} (h : GF n ls) (hm : n ≤ m) : GF m ls := ⟨Nat.le_trans h.n1 hm, h.ne, h.g, h.lne, fun l hl x hx => Nat.lt_of_lt_of_le (h.lt l hl x hx) hm⟩
theorem Good.sub {ls ls' : List T} (h : Good ls) (s : ls'.Sublist ls) : Good ls' := ⟨fun l hl => h.asc l (s.subset hl), h.lt.sublist s, fun l hl m hm => h.anti l (s.subset hl) m (s.subset hm)⟩
theorem GF.sub {n : Nat} {ls ls' : List T} (h : GF n ls) (s : ls'.Sublist ls) (ne : ls' ≠ []) : GF n ls' := ⟨h.n1, ne, h.g.sub s, fun l hl => h.lne l (s.subset hl), fun l hl => h.lt l (s.subset hl)⟩
/-! ### moved by a permutation -/
def mv (names : T) (l : T) : T := sortN (l.map fun t => names.getD t 0)
theorem getD_inj {names : T} {n : Nat} (h : names.Perm (List.range n)) {a b : Nat} (ha : a < n) (hb : b < n) (e : names.getD a 0 = names.getD b 0) : a = b := by
  have hl : names.length = n := by rw [h.length_eq, List.length_range]
  have nd : names.Nodup := h.nodup_iff.mpr List.nodup_range
  have h1 : a < names.length := by omega
  have h2 : b < names.length := by omega
  simp only [List.getD, List.getElem?_eq_getElem h1, List.getElem?_eq_getElem h2, Option.getD_some] at e
  rcases Nat.lt_trichotomy a b with h | h | h
  · exact absurd e ((List.pairwise_iff_getElem.mp nd) a b h1 h2 h)
  · exact h
  · exact absurd e.symm ((List.pairwise_iff_getElem.mp nd) b a h2 h1 h)
theorem getD_lt {names : T} {n : Nat} (h : names.Perm (List.range n)) {a : Nat} (ha : a < n) : names.getD a 0 < n := by
  have hl : names.length = n := by rw [h.length_eq, List.length_range]
  have h1 : a < names.length := by omega
  simp only [List.getD, List.getElem?_eq_getElem h1, Option.getD_some]
  exact List.mem_range.mp (h.mem_iff.mp (List.getElem_mem h1))
theorem mem_mv {names l : T} {x : Nat} : x ∈ mv names l ↔ ∃ t ∈ l, names.getD t 0 = x := by
  unfold mv
  rw [sortN_mem, List.mem_map]
theorem mv_asc {names l : T} {n : Nat} (h : names.Perm (List.range n)) (a : Asc l) (hl : ∀ x ∈ l, x < n) : Asc (mv names l) := by
  refine sortN_nd (List.pairwise_map.mpr ?_)
  refine (List.Pairwise.and_mem.mp a).imp ?_
  rintro x y ⟨hx, hy, hxy⟩ e
  have := getD_inj h (hl x hx) (hl y hy) e
  omega
theorem mv_sub {names l m : T} {n : Nat} (h : names.Perm (List.range n)) (hl : ∀ x ∈ l, x < n) (hm : ∀ x ∈ m, x < n) (s : ∀ x ∈ mv names l, x ∈ mv names m) : ∀ x ∈ l, x ∈ m := fun x hx => by
  obtain ⟨t, ht, e⟩ := mem_mv.mp (s _ (mem_mv.mpr ⟨x, hx, rfl⟩))
  have := getD_inj h (hm t ht) (hl x hx) e
  rw [← this]; exact ht
theorem moved_gf {names : T} {n : Nat} {ls : List T} (h : names.Perm (List.range n)) (g : GF n ls) : GF n (srt (ls.map (mv names))) := by
  have inj : ∀ l ∈ ls, ∀ m ∈ ls, mv names l = mv names m → l = m := fun l hl m hm e => g.g.anti l hl m hm (mv_sub h (g.lt l hl) (g.lt m hm) (fun x hx => e ▸ hx))
  have nd : (ls.map (mv names)).Nodup := by
    refine List.pairwise_map.mpr ?_
    refine (List.Pairwise.and_mem.mp (nodup_of_lt g.g.lt)).imp ?_
    rintro a b ⟨ha, hb, hne⟩ e
    exact hne (inj a ha b hb e)
  have mem : ∀ x, x ∈ srt (ls.map (mv names)) ↔ ∃ l ∈ ls, mv names l = x := fun x => by rw [srt_mem, List.mem_map]
  refine ⟨g.n1, fun z => ?_, ⟨fun l hl => ?_, srt_lt nd, fun l hl m hm s => ?_⟩, fun l hl z => ?_, fun l hl x hx => ?_⟩
  · obtain ⟨l, hl⟩ := List.exists_mem_of_ne_nil _ g.ne
    have := (mem (mv names l)).mpr ⟨l, hl, rfl⟩
    rw [z] at this
    cases this
  · obtain ⟨k, hk, rfl⟩ := (mem l).mp hl
    exact mv_asc h (g.g.asc k hk) (g.lt k hk)
  · obtain ⟨k, hk, rfl⟩ := (mem l).mp hl
    obtain ⟨k', hk', rfl⟩ := (mem m).mp hm
    rw [g.g.anti k hk k' hk' (mv_sub h (g.lt k hk) (g.lt k' hk') s)]
  · obtain ⟨k, hk, rfl⟩ := (mem l).mp hl
    obtain ⟨x, hx⟩ := List.exists_mem_of_ne_nil _ (g.lne k hk)
    have : names.getD x 0 ∈ mv names k := mem_mv.mpr ⟨x, hx, rfl⟩
    rw [z] at this
    cases this
  · obtain ⟨k, hk, rfl⟩ := (mem l).mp hl
    obtain ⟨t, ht, rfl⟩ := mem_mv.mp hx
    exact getD_lt h (g.lt k hk t ht)
/-! ### the least of some lots -/
theorem leastL_mem_aux (lots : List T) : ∀ (r k : List T), k.Nodup → (∀ l ∈ r, l ∈ lots) →
    (r.foldl (leastL1 lots) k).Nodup ∧ ∀ x, x ∈ r.foldl (leastL1 lots) k ↔ x ∈ k ∨ (x ∈ r ∧ ∀ o ∈ lots, o ≠ x → ¬ ∀ y ∈ o, y ∈ x)
  | [], k, nd, _ => ⟨nd, fun x => by simp⟩
  | a :: r, k, nd, hr => by
    have hf : ∀ lot : T, (lots.filter fun o => !decide (o = lot) && inside o lot).length == 0 ↔ ∀ o ∈ lots, o ≠ lot → ¬ ∀ y ∈ o, y ∈ lot := fun lot => by
      rw [beq_iff_eq, List.length_eq_zero_iff, List.filter_eq_nil_iff]
      constructor
      · intro h o ho hne hs
        exact h o ho (by simp [hne, inside_iff.mpr hs])
      · intro h o ho hx
        simp only [Bool.and_eq_true, Bool.not_eq_true', decide_eq_false_iff_not] at hx
        exact h o ho hx.1 (inside_iff.mp hx.2)
    have hk : (leastL1 lots k a).Nodup ∧ ∀ x, x ∈ leastL1 lots k a ↔ x ∈ k ∨ (x = a ∧ ∀ o ∈ lots, o ≠ x → ¬ ∀ y ∈ o, y ∈ x) := by
      unfold leastL1
      split
      · rename_i h
        exact ⟨nd, fun x => ⟨.inl, fun z => z.elim id fun z => z.1 ▸ h⟩⟩
      · rename_i h
        split
        · rename_i h2
          have h2' := (hf a).mp h2
          refine ⟨List.pairwise_append.mpr ⟨nd, List.pairwise_singleton _ _, fun x hx y hy e => h (by simp at hy; rw [← hy, ← e]; exact hx)⟩, fun x => ?_⟩
          rw [List.mem_append, List.mem_singleton]
          exact ⟨fun z => z.imp id fun z => ⟨z, z ▸ h2'⟩, fun z => z.imp id fun z => z.1⟩
        · rename_i h2
          refine ⟨nd, fun x => ⟨.inl, fun z => z.elim id fun z => ?_⟩⟩
          exact absurd ((hf a).mpr (z.1 ▸ z.2)) h2
    obtain ⟨h1, h2⟩ := leastL_mem_aux lots r _ hk.1 (fun l hl => hr l (List.mem_cons_of_mem _ hl))
    refine ⟨h1, fun x => ?_⟩
    rw [List.foldl_cons, h2, hk.2, List.mem_cons]
    constructor
    · rintro ((h | ⟨rfl, h⟩) | ⟨h, h'⟩)
      · exact .inl h
      · exact .inr ⟨.inl rfl, h⟩
      · exact .inr ⟨.inr h, h'⟩
    · rintro (h | ⟨rfl | h, h'⟩)
      · exact .inl (.inl h)
      · exact .inl (.inr ⟨rfl, h'⟩)
      · exact .inr ⟨h, h'⟩
theorem leastL_mem {lots : List T} {x : T} : x ∈ leastL lots ↔ x ∈ lots ∧ ∀ o ∈ lots, o ≠ x → ¬ ∀ y ∈ o, y ∈ x := by
  unfold leastL
  rw [srt_mem, (leastL_mem_aux lots lots [] List.nodup_nil fun _ h => h).2]
  simp
theorem leastL_lt (lots : List T) : (leastL lots).Pairwise (· < ·) := srt_lt (leastL_mem_aux lots lots [] List.nodup_nil fun _ h => h).1
theorem least_ex {lots : List T} (ha : ∀ l ∈ lots, Asc l) : ∀ (k : Nat) (l : T), l ∈ lots → l.length = k → ∃ m ∈ leastL lots, ∀ y ∈ m, y ∈ l := by
  intro k
  induction k using Nat.strongRecOn with
  | ind k ih =>
    intro l hl hk
    by_cases h : ∀ o ∈ lots, o ≠ l → ¬ ∀ y ∈ o, y ∈ l
    · exact ⟨l, leastL_mem.mpr ⟨hl, h⟩, fun _ h => h⟩
    · obtain ⟨o, ho, hne, hs⟩ : ∃ o, o ∈ lots ∧ o ≠ l ∧ ∀ y ∈ o, y ∈ l := Classical.byContradiction fun z => h fun o ho hne hs => z ⟨o, ho, hne, hs⟩
      have hlt : o.length < l.length := by
        have e : o = l.filter (fun x => decide (x ∈ o)) := asc_ext (ha o ho) ((ha l hl).filter _) fun x => by
          rw [List.mem_filter, decide_eq_true_iff]
          exact ⟨fun hx => ⟨hs x hx, hx⟩, fun hx => hx.2⟩
        have h1 := List.length_filter_le (fun x => decide (x ∈ o)) l
        rw [← e] at h1
        rcases Nat.lt_or_eq_of_le h1 with h1 | h1
        · exact h1
        · exfalso
          apply hne
          have h2 := List.length_filter_eq_length_iff.mp (show (l.filter (fun x => decide (x ∈ o))).length = l.length by rw [← e]; exact h1)
          exact asc_ext (ha o ho) (ha l hl) fun x => ⟨hs x, fun hx => by simpa using h2 x hx⟩
      obtain ⟨m, hm, h1⟩ := ih o.length (hk ▸ hlt) o ho rfl
      exact ⟨m, hm, fun y hy => hs y (h1 y hy)⟩
theorem least_gf {n : Nat} {fs : List T} (n1 : 1 ≤ n) (ne : fs ≠ []) (ha : ∀ l ∈ fs, Asc l) (hn : ∀ l ∈ fs, l ≠ []) (hl : ∀ l ∈ fs, ∀ x ∈ l, x < n) : GF n (leastL fs) := by
  refine ⟨n1, fun z => ?_, ⟨fun l h => ha l (leastL_mem.mp h).1, leastL_lt fs, fun l h m h' s => ?_⟩, fun l h => hn l (leastL_mem.mp h).1, fun l h => hl l (leastL_mem.mp h).1⟩
  · obtain ⟨l, hl⟩ := List.exists_mem_of_ne_nil _ ne
    obtain ⟨m, hm, _⟩ := least_ex ha _ l hl rfl
    rw [z] at hm
    cases hm
  · by_cases e : l = m
    · exact e
    · exact absurd s ((leastL_mem.mp h').2 l (leastL_mem.mp h).1 e)
/-! ### all sets of one size -/
theorem sized_mem {n k : Nat} {s : T} : s ∈ sized n k ↔ Asc s ∧ (∀ x ∈ s, x < n) ∧ s.length = k := by
  unfold sized
  rw [srt_mem, List.mem_filter, subsets_mem, beq_iff_eq]
  exact and_assoc
theorem sub_eq {l m : T} (a : Asc l) (b : Asc m) (s : ∀ x ∈ l, x ∈ m) (e : m.length ≤ l.length) : l = m := by
  have h1 : l = m.filter (fun x => decide (x ∈ l)) := asc_ext a (b.filter _) fun x => by
    rw [List.mem_filter, decide_eq_true_iff]
    exact ⟨fun hx => ⟨s x hx, hx⟩, fun hx => hx.2⟩
  have h2 := List.length_filter_le (fun x => decide (x ∈ l)) m
  rw [← h1] at h2
  have h3 := List.length_filter_eq_length_iff.mp (show (m.filter (fun x => decide (x ∈ l))).length = m.length by rw [← h1]; omega)
  exact asc_ext a b fun x => ⟨s x, fun hx => by simpa using h3 x hx⟩
theorem sized_gf {n k : Nat} (h1 : 1 ≤ k) (h2 : k ≤ n) : GF n (sized n k) := by
  refine ⟨by omega, fun z => ?_, ⟨fun l h => (sized_mem.mp h).1, srt_lt ((subsets_nodup n).sublist List.filter_sublist), fun l h m h' s => ?_⟩, fun l h z => ?_, fun l h => (sized_mem.mp h).2.1⟩
  · have : List.range k ∈ sized n k := sized_mem.mpr ⟨range_asc k, fun x hx => by have := List.mem_range.mp hx; omega, List.length_range⟩
    rw [z] at this
    cases this
  · exact sub_eq (sized_mem.mp h).1 (sized_mem.mp h').1 s (by rw [(sized_mem.mp h).2.2, (sized_mem.mp h').2.2]; exact Nat.le_refl _)
  · have := (sized_mem.mp h).2.2
    rw [z] at this
    simp at this
    omega
end KM
set_option autoImplicit false
/-! The sets that meet all lots, the least of them: the step by step walk over masks makes just them. -/
namespace KM
/-- m meets all of L -/
def TrM (L : List T) (m : Nat) : Prop := ∀ l ∈ L, ∃ x ∈ l, m.testBit x = true
/-- .. and each of its things has a lot of its own -/
def MinM (L : List T) (m : Nat) : Prop := TrM L m ∧ ∀ e, m.testBit e = true → ∃ l ∈ L, ∀ x ∈ l, m.testBit x = true → x = e
theorem TrM.up {L : List T} {m k : Nat} (h : TrM L m) (s : Sb m k) : TrM L k := fun l hl => let ⟨x, h1, h2⟩ := h l hl; ⟨x, h1, s x h2⟩
/-- two of them, one within the other -/
theorem MinM.eq {L : List T} {m k : Nat} (h : TrM L m) (g : MinM L k) (s : Sb m k) : m = k := by
  refine Sb.antisymm s fun e he => ?_
  obtain ⟨l, hl, hp⟩ := g.2 e he
  obtain ⟨x, h1, h2⟩ := h l hl
  rw [← hp x h1 (s x h2)]
  exact h2
theorem bit_pow {e x : Nat} : (2 ^ e).testBit x = decide (e = x) := Nat.testBit_two_pow
/-- m without e -/
def wo (m e : Nat) : Nat := m ^^^ (m &&& 2 ^ e)
theorem wo_bit {m e x : Nat} : (wo m e).testBit x = true ↔ m.testBit x = true ∧ x ≠ e := by
  unfold wo
  rw [Nat.testBit_xor, Nat.testBit_and, bit_pow]
  by_cases h : e = x
  · subst h
    cases m.testBit e <;> simp
  · have h' : x ≠ e := fun z => h z.symm
    cases m.testBit x <;> simp [h, h']
theorem wo_lt {m e : Nat} (h : m.testBit e = true) : wo m e < m := by
  have s : Sb (wo m e) m := fun x hx => (wo_bit.mp hx).1
  rcases Nat.lt_or_eq_of_le s.le with z | z
  · exact z
  · rw [← z] at h
    exact absurd rfl (wo_bit.mp h).2
/-- each that meets all holds a least one -/
theorem min_in {L : List T} : ∀ (m : Nat), TrM L m → ∃ k, MinM L k ∧ Sb k m := by
  intro m
  induction m using Nat.strongRecOn with
  | ind m ih =>
    intro h
    by_cases hm : ∀ e, m.testBit e = true → ∃ l ∈ L, ∀ x ∈ l, m.testBit x = true → x = e
    · exact ⟨m, ⟨h, hm⟩, Sb.refl m⟩
    · obtain ⟨e, he, hne⟩ : ∃ e, m.testBit e = true ∧ ¬ ∃ l ∈ L, ∀ x ∈ l, m.testBit x = true → x = e := Classical.byContradiction fun z => hm fun e he => Classical.byContradiction fun z2 => z ⟨e, he, z2⟩
      have ht : TrM L (wo m e) := fun l hl => by
        obtain ⟨x, h1, h2, h3⟩ : ∃ x ∈ l, m.testBit x = true ∧ x ≠ e := Classical.byContradiction fun z => hne ⟨l, hl, fun x hx hb => Classical.byContradiction fun z2 => z ⟨x, hx, hb, z2⟩⟩
        exact ⟨x, h1, wo_bit.mpr ⟨h2, h3⟩⟩
      obtain ⟨k, hk, hs⟩ := ih (wo m e) (wo_lt he) ht
      exact ⟨k, hk, hs.trans fun x hx => (wo_bit.mp hx).1⟩
theorem and_ne {a : T} (ha : Asc a) {m : Nat} : (m &&& maskOf a != 0) = true ↔ ∃ x ∈ a, m.testBit x = true := by
  rw [bne_iff_ne, ne_eq, and_zero_iff]
  constructor
  · intro h
    refine Classical.byContradiction fun z => h fun i hi => ?_
    rw [mask_bit ha]
    exact decide_eq_false fun hm => z ⟨i, hm, hi⟩
  · rintro ⟨x, h1, h2⟩ h
    have := h x h2
    rw [mask_bit ha, decide_eq_false_iff_not] at this
    exact this h1
theorem and_pow {a : T} (ha : Asc a) {m e : Nat} : (m &&& maskOf a == 2 ^ e) = true ↔ ∀ x, (m.testBit x = true ∧ x ∈ a) ↔ x = e := by
  rw [beq_iff_eq]
  constructor
  · intro h x
    have := congrArg (fun n => n.testBit x) h
    simp only [Nat.testBit_and, mask_bit ha, bit_pow] at this
    rw [Bool.eq_iff_iff] at this
    simp at this
    rw [this]
    exact ⟨fun h => h.symm, fun h => h.symm⟩
  · intro h
    apply Nat.eq_of_testBit_eq
    intro x
    rw [Nat.testBit_and, mask_bit ha, bit_pow, Bool.eq_iff_iff]
    simp
    rw [h x]
    exact ⟨fun h => h.symm, fun h => h.symm⟩
theorem or_bit {m e x : Nat} : (m ||| 2 ^ e).testBit x = true ↔ m.testBit x = true ∨ x = e := by
  rw [Nat.testBit_or, bit_pow, Bool.or_eq_true, decide_eq_true_iff]
  exact or_congr Iff.rfl ⟨fun h => h.symm, fun h => h.symm⟩
theorem not_sb {a b : Nat} : (a &&& b != a) = true ↔ ¬ Sb a b := by
  rw [bne_iff_ne, ne_eq, and_left_iff]
/-! the step, part by part -/
def okWide (met : List Nat) (mask e one : Nat) : Bool := (met.filter (fun t => t &&& mask == 2 ^ e)).all (fun two => two &&& (one ||| 2 ^ e) != two)
theorem grown_eq (met : List Nat) (mask : Nat) (missed : List Nat) (e : Nat) : ∀ (g : List Nat), grownAt met missed mask g e = g ++ (missed.filter (okWide met mask e)).map (fun one => one ||| 2 ^ e) := by
  unfold grownAt
  induction missed with
  | nil => intro g; simp
  | cons a r ih =>
    intro g
    rw [List.foldl_cons, ih]
    by_cases h : ((met.filter (fun t => t &&& mask == 2 ^ e)).all (fun two => two &&& (a ||| 2 ^ e) != two)) = true
    · rw [if_pos h, List.filter_cons_of_pos (show okWide met mask e a = true from h)]
      simp
    · rw [if_neg h, List.filter_cons_of_neg (show ¬ okWide met mask e a = true from h)]
theorem nd_flat {f : Nat → List Nat} : ∀ (a : T), a.Pairwise (fun e e' => ∀ x ∈ f e, x ∉ f e') → (∀ e ∈ a, (f e).Nodup) → (a.flatMap f).Nodup
  | [], _, _ => by simp
  | e :: a, h, k => by
    obtain ⟨h1, h2⟩ := List.pairwise_cons.mp h
    rw [List.flatMap_cons]
    refine List.pairwise_append.mpr ⟨k e List.mem_cons_self, nd_flat a h2 fun e he => k e (List.mem_cons_of_mem _ he), fun x hx y hy z => ?_⟩
    obtain ⟨e', he', hy'⟩ := List.mem_flatMap.mp hy
    exact h1 e' he' x hx (z ▸ hy')
theorem grown_all (met : List Nat) (mask : Nat) (missed : List Nat) : ∀ (a : T) (g : List Nat), a.foldl (grownAt met missed mask) g = g ++ a.flatMap (fun e => (missed.filter (okWide met mask e)).map (fun one => one ||| 2 ^ e))
  | [], g => by simp
  | e :: a, g => by
    rw [List.foldl_cons, grown_all met mask missed a, grown_eq]
    simp
structure Kp (L : List T) (k : List Nat) : Prop where
  nd : k.Nodup
  mem : ∀ m, m ∈ k ↔ MinM L m
theorem step_kp {L : List T} {k : List Nat} {a : T} (h : Kp L k) (ha : Asc a) : Kp (L ++ [a]) (blkStep k a) := by
  have e0 : blkStep k a = k.filter (fun one => one &&& maskOf a != 0) ++ a.flatMap (fun e => ((k.filter (fun one => one &&& maskOf a == 0)).filter (okWide (k.filter (fun one => one &&& maskOf a != 0)) (maskOf a) e)).map (fun one => one ||| 2 ^ e)) := by
    unfold blkStep
    rw [grown_all]
    simp
  have hmet : ∀ m, m ∈ k.filter (fun one => one &&& maskOf a != 0) ↔ MinM L m ∧ ∃ x ∈ a, m.testBit x = true := fun m => by rw [List.mem_filter, h.mem, and_ne ha]
  have hmis : ∀ m, m ∈ k.filter (fun one => one &&& maskOf a == 0) ↔ MinM L m ∧ ∀ x ∈ a, m.testBit x = false := fun m => by
    rw [List.mem_filter, h.mem, beq_iff_eq, and_zero_iff]
    refine and_congr Iff.rfl ⟨fun z x hx => ?_, fun z i hi => ?_⟩
    · cases hb : m.testBit x with
      | false => rfl
      | true =>
        have := z x hb
        rw [mask_bit ha, decide_eq_false_iff_not] at this
        exact absurd hx this
    · rw [mask_bit ha, decide_eq_false_iff_not]
      intro hx
      rw [z i hx] at hi
      cases hi
  have hok : ∀ e one, okWide (k.filter (fun one => one &&& maskOf a != 0)) (maskOf a) e one = true ↔ ∀ two, MinM L two → (∀ x, (two.testBit x = true ∧ x ∈ a) ↔ x = e) → ¬ Sb two (one ||| 2 ^ e) := fun e one => by
    unfold okWide
    rw [List.all_eq_true]
    constructor
    · intro z two h1 h2
      refine not_sb.mp (z two (List.mem_filter.mpr ⟨(hmet two).mpr ⟨h1, e, ((h2 e).mpr rfl).2, ((h2 e).mpr rfl).1⟩, (and_pow ha).mpr h2⟩))
    · intro z two ht
      obtain ⟨h1, h2⟩ := List.mem_filter.mp ht
      exact not_sb.mpr (z two ((hmet two).mp h1).1 ((and_pow ha).mp h2))
  rw [e0]
  have one_eq : ∀ {e one m}, e ∈ a → (∀ x ∈ a, one.testBit x = false) → one ||| 2 ^ e = m → (∀ x, (m.testBit x = true ∧ x ∈ a) ↔ x = e) ∧ one = wo m e := fun {e one m} he hmiss hm => by
    subst hm
    refine ⟨fun x => ?_, ?_⟩
    · rw [or_bit]
      constructor
      · rintro ⟨h1 | h1, h2⟩
        · rw [hmiss x h2] at h1; cases h1
        · exact h1
      · rintro rfl
        exact ⟨.inr rfl, he⟩
    · refine Sb.antisymm (fun x hx => wo_bit.mpr ⟨or_bit.mpr (.inl hx), fun z => by rw [z, hmiss e he] at hx; cases hx⟩) fun x hx => ?_
      obtain ⟨h1, h2⟩ := wo_bit.mp hx
      exact (or_bit.mp h1).resolve_right h2
  refine ⟨?_, fun m => ?_⟩
  · refine List.pairwise_append.mpr ⟨h.nd.sublist List.filter_sublist, ?_, fun x hx y hy e => ?_⟩
    · refine nd_flat a ((List.Pairwise.and_mem.mp ha).imp ?_) fun e he => ?_
      · rintro e e' ⟨he, he', hlt⟩ x hx hx'
        obtain ⟨o, ho, h1⟩ := List.mem_map.mp hx
        obtain ⟨o', ho', h1'⟩ := List.mem_map.mp hx'
        have q := (one_eq he ((hmis o).mp (List.mem_filter.mp ho).1).2 h1).1
        have q' := (one_eq he' ((hmis o').mp (List.mem_filter.mp ho').1).2 h1').1
        have := (q' e).mp ((q e).mpr rfl)
        omega
      · refine List.pairwise_map.mpr ?_
        refine (List.Pairwise.and_mem.mp ((h.nd.sublist List.filter_sublist).sublist List.filter_sublist)).imp ?_
        rintro x y ⟨hx, hy, hne⟩ z
        have hx' := ((hmis x).mp (List.mem_filter.mp hx).1).2
        have hy' := ((hmis y).mp (List.mem_filter.mp hy).1).2
        exact hne ((one_eq he hx' rfl).2.trans (z ▸ (one_eq he hy' rfl).2.symm))
    · subst e
      obtain ⟨e, he, hx'⟩ := List.mem_flatMap.mp hy
      obtain ⟨o, ho, h1⟩ := List.mem_map.mp hx'
      obtain ⟨g1, g2⟩ := (hmis o).mp (List.mem_filter.mp ho).1
      have := MinM.eq g1.1 ((hmet x).mp hx).1 (fun i hi => h1 ▸ or_bit.mpr (.inl hi))
      have hb : x.testBit e = true := h1 ▸ or_bit.mpr (.inr rfl)
      rw [← this, g2 e he] at hb
      cases hb
  · rw [List.mem_append, hmet, List.mem_flatMap]
    constructor
    · rintro (⟨g1, x, hx, hb⟩ | ⟨e, he, hm⟩)
      · refine ⟨fun l hl => ?_, fun e he => ?_⟩
        · rcases List.mem_append.mp hl with hl | hl
          · exact g1.1 l hl
          · simp at hl
            rw [hl]
            exact ⟨x, hx, hb⟩
        · obtain ⟨l, hl, hp⟩ := g1.2 e he
          exact ⟨l, List.mem_append_left _ hl, hp⟩
      · obtain ⟨o, ho, h1⟩ := List.mem_map.mp hm
        obtain ⟨ho1, ho2⟩ := List.mem_filter.mp ho
        obtain ⟨g1, g2⟩ := (hmis o).mp ho1
        have cond := (hok e o).mp ho2
        obtain ⟨q1, q2⟩ := one_eq he g2 h1
        have so : Sb o m := fun i hi => h1 ▸ or_bit.mpr (.inl hi)
        refine ⟨fun l hl => ?_, fun f hf => ?_⟩
        · rcases List.mem_append.mp hl with hl | hl
          · exact g1.1.up so l hl
          · simp at hl
            rw [hl]
            exact ⟨e, he, ((q1 e).mpr rfl).1⟩
        · by_cases hfe : f = e
          · subst hfe
            exact ⟨a, by simp, fun x hx hb => (q1 x).mp ⟨hb, hx⟩⟩
          · refine Classical.byContradiction fun z => ?_
            have ht : TrM L (wo m f) := fun l hl => by
              obtain ⟨x, hx, hb, hne⟩ : ∃ x ∈ l, m.testBit x = true ∧ x ≠ f := Classical.byContradiction fun z2 => z ⟨l, List.mem_append_left _ hl, fun x hx hb => Classical.byContradiction fun z3 => z2 ⟨x, hx, hb, z3⟩⟩
              exact ⟨x, hx, wo_bit.mpr ⟨hb, hne⟩⟩
            obtain ⟨two, t1, t2⟩ := min_in (wo m f) ht
            have sm : Sb two m := fun i hi => (wo_bit.mp (t2 i hi)).1
            have het : two.testBit e = true := by
              cases hb : two.testBit e with
              | true => rfl
              | false =>
                exfalso
                have s1 : Sb two o := fun i hi => by
                  rw [q2]
                  exact wo_bit.mpr ⟨sm i hi, fun w => by rw [w, hb] at hi; cases hi⟩
                have e1 := MinM.eq t1.1 g1 s1
                have hfo : o.testBit f = true := by
                  rw [q2]
                  exact wo_bit.mpr ⟨hf, hfe⟩
                rw [← e1] at hfo
                exact (wo_bit.mp (t2 f hfo)).2 rfl
            refine cond two t1 (fun x => ⟨fun hx => (q1 x).mp ⟨sm x hx.1, hx.2⟩, fun hx => hx ▸ ⟨het, he⟩⟩) ?_
            rw [h1]
            exact sm
    · intro hm
      have hta : ∃ x ∈ a, m.testBit x = true := hm.1 a (by simp)
      have hTL : TrM L m := fun l hl => hm.1 l (List.mem_append_left _ hl)
      by_cases hL : MinM L m
      · exact .inl ⟨hL, hta⟩
      · refine .inr ?_
        obtain ⟨e, he, hne⟩ : ∃ e, m.testBit e = true ∧ ¬ ∃ l ∈ L, ∀ x ∈ l, m.testBit x = true → x = e := Classical.byContradiction fun z => hL ⟨hTL, fun e he => Classical.byContradiction fun z2 => z ⟨e, he, z2⟩⟩
        obtain ⟨l, hl, hp⟩ := hm.2 e he
        have hla : l = a := by
          rcases List.mem_append.mp hl with hl | hl
          · exact absurd ⟨l, hl, hp⟩ hne
          · simpa using hl
        subst hla
        have hel : e ∈ l := by
          obtain ⟨x, hx, hb⟩ := hta
          rw [← hp x hx hb]
          exact hx
        have q1 : ∀ x, (m.testBit x = true ∧ x ∈ l) ↔ x = e := fun x => ⟨fun h => hp x h.2 h.1, fun h => h ▸ ⟨he, hel⟩⟩
        have mis : ∀ x ∈ l, (wo m e).testBit x = false := fun x hx => by
          cases hb : (wo m e).testBit x with
          | false => rfl
          | true =>
            obtain ⟨h1, h2⟩ := wo_bit.mp hb
            exact absurd (hp x hx h1) h2
        have hw : wo m e ||| 2 ^ e = m := by
          refine Sb.antisymm (fun x hx => ?_) fun x hx => ?_
          · rcases or_bit.mp hx with h | h
            · exact (wo_bit.mp h).1
            · rw [h]; exact he
          · by_cases hxe : x = e
            · exact or_bit.mpr (.inr hxe)
            · exact or_bit.mpr (.inl (wo_bit.mpr ⟨hx, hxe⟩))
        have g1 : MinM L (wo m e) := by
          refine ⟨fun k hk => ?_, fun f hf => ?_⟩
          · obtain ⟨x, hx, hb, hxe⟩ : ∃ x ∈ k, m.testBit x = true ∧ x ≠ e := Classical.byContradiction fun z => hne ⟨k, hk, fun x hx hb => Classical.byContradiction fun z2 => z ⟨x, hx, hb, z2⟩⟩
            exact ⟨x, hx, wo_bit.mpr ⟨hb, hxe⟩⟩
          · obtain ⟨hf1, hf2⟩ := wo_bit.mp hf
            obtain ⟨k, hk, hkp⟩ := hm.2 f hf1
            rcases List.mem_append.mp hk with hk | hk
            · exact ⟨k, hk, fun x hx hb => hkp x hx (wo_bit.mp hb).1⟩
            · have : k = l := by simpa using hk
              subst this
              exact absurd (hkp e hel he).symm hf2
        refine ⟨e, hel, List.mem_map.mpr ⟨wo m e, List.mem_filter.mpr ⟨(hmis _).mpr ⟨g1, mis⟩, (hok e _).mpr fun two t1 t2 ts => ?_⟩, hw⟩⟩
        rw [hw] at ts
        by_cases hmt : Sb m two
        · exact hL (Sb.antisymm ts hmt ▸ t1)
        · obtain ⟨f, hf1, hf2⟩ : ∃ f, m.testBit f = true ∧ ¬ two.testBit f = true := Classical.byContradiction fun z => hmt fun f hf => Classical.byContradiction fun z2 => z ⟨f, hf, z2⟩
          obtain ⟨k, hk, hkp⟩ := hm.2 f hf1
          rcases List.mem_append.mp hk with hk | hk
          · obtain ⟨x, hx, hb⟩ := t1.1 k hk
            exact hf2 (hkp x hx (ts x hb) ▸ hb)
          · have : k = l := by simpa using hk
            subst this
            have hef := hkp e hel he
            exact hf2 (hef ▸ ((t2 e).mpr rfl).1)
theorem blk_kp : ∀ (r L : List T) (k : List Nat), Kp L k → (∀ l ∈ r, Asc l) → Kp (L ++ r) (r.foldl blkStep k)
  | [], L, k, h, _ => by simpa using h
  | a :: r, L, k, h, ha => by
    have := blk_kp r (L ++ [a]) (blkStep k a) (step_kp h (ha a List.mem_cons_self)) fun l hl => ha l (List.mem_cons_of_mem _ hl)
    rw [List.append_assoc] at this
    exact this
theorem blk_spec {L : List T} (ha : ∀ l ∈ L, Asc l) : Kp L (L.foldl blkStep [0]) := by
  have h0 : Kp [] [0] := ⟨by simp, fun m => by
    rw [List.mem_singleton]
    constructor
    · rintro rfl
      exact And.intro (fun l hl => absurd hl (by simp)) (fun e he => absurd he (by simp))
    · intro h
      apply Nat.eq_of_testBit_eq
      intro i
      cases hb : m.testBit i with
      | false => simp
      | true =>
        obtain ⟨l, hl, _⟩ := h.2 i hb
        cases hl⟩
  have := blk_kp L [] [0] h0 ha
  simpa using this
end KM
set_option autoImplicit false
/-! The blocker: two ways of making it agree; a set or its rest; the quiet sets. -/
namespace KM
theorem mem_blockerLots {L : List T} (ha : ∀ l ∈ L, Asc l) {s : T} : s ∈ blockerLots L ↔ Asc s ∧ MinM L (maskOf s) := by
  unfold blockerLots lotsOfMasks
  rw [srt_mem, List.mem_map]
  constructor
  · rintro ⟨m, hm, rfl⟩
    refine ⟨things_asc m, ?_⟩
    rw [mask_things]
    exact ((blk_spec ha).mem m).mp hm
  · rintro ⟨h1, h2⟩
    exact ⟨maskOf s, ((blk_spec ha).mem _).mpr h2, things_mask h1⟩
theorem blockerLots_lt {L : List T} (ha : ∀ l ∈ L, Asc l) : (blockerLots L).Pairwise (· < ·) := by
  refine srt_lt (List.pairwise_map.mpr ?_)
  refine (blk_spec ha).nd.imp ?_
  intro a b hne e
  apply hne
  rw [← mask_things a, ← mask_things b, e]
theorem tr_meets {L : List T} {s : T} (a : Asc s) : TrM L (maskOf s) ↔ meets L s = true := by
  rw [meets_iff]
  unfold TrM
  constructor
  · intro h l hl
    obtain ⟨x, h1, h2⟩ := h l hl
    exact ⟨x, h1, (mask_bit_iff a).mp h2⟩
  · intro h l hl
    obtain ⟨x, h1, h2⟩ := h l hl
    exact ⟨x, h1, (mask_bit_iff a).mpr h2⟩
theorem min_blk {L : List T} {s : T} (a : Asc s) : MinM L (maskOf s) ↔ isBlk L s = true := by
  unfold isBlk MinM
  rw [Bool.and_eq_true, tr_meets a]
  refine and_congr Iff.rfl ?_
  unfold spare
  rw [beq_iff_eq, List.length_eq_zero_iff, List.filter_eq_nil_iff]
  constructor
  · intro h t ht hm
    obtain ⟨l, hl, hp⟩ := h t ((mask_bit_iff a).mpr ht)
    obtain ⟨x, hx, hx2⟩ := meets_iff.mp hm l hl
    obtain ⟨h1, h2⟩ := List.mem_filter.mp hx2
    have := hp x hx ((mask_bit_iff a).mpr h1)
    simp [this] at h2
  · intro h e he
    have he' := (mask_bit_iff a).mp he
    refine Classical.byContradiction fun z => h e he' (meets_iff.mpr fun l hl => ?_)
    obtain ⟨x, hx, hb, hne⟩ : ∃ x ∈ l, (maskOf s).testBit x = true ∧ x ≠ e := by
      refine Classical.byContradiction fun z2 => ?_
      exact z ⟨l, hl, fun x hx hb => Classical.byContradiction fun z3 => z2 ⟨x, hx, hb, z3⟩⟩
    exact ⟨x, hx, List.mem_filter.mpr ⟨(mask_bit_iff a).mp hb, by simpa using hne⟩⟩
theorem min_lt {L : List T} {n m : Nat} (hl : ∀ l ∈ L, ∀ x ∈ l, x < n) (h : MinM L m) {e : Nat} (he : m.testBit e = true) : e < n := by
  obtain ⟨l, h1, hp⟩ := h.2 e he
  obtain ⟨x, hx, hb⟩ := h.1 l h1
  rw [← hp x hx hb]
  exact hl l h1 x hx
theorem blocker_eq {L : List T} {n : Nat} (ha : ∀ l ∈ L, Asc l) (hl : ∀ l ∈ L, ∀ x ∈ l, x < n) : blocker n L = blockerLots L := by
  refine ltT_ext (srt_lt ((subsets_nodup n).sublist List.filter_sublist)) (blockerLots_lt ha) fun s => ?_
  unfold blocker
  rw [srt_mem, List.mem_filter, subsets_mem, mem_blockerLots ha]
  constructor
  · rintro ⟨⟨h1, _⟩, h3⟩
    exact ⟨h1, (min_blk h1).mpr h3⟩
  · rintro ⟨h1, h2⟩
    exact ⟨⟨h1, fun x hx => min_lt hl h2 ((mask_bit_iff h1).mpr hx)⟩, (min_blk h1).mp h2⟩
theorem blocker_gf {L : List T} {n : Nat} (g : GF n L) : GF n (blockerLots L) := by
  have ha := g.g.asc
  have mem := fun s => mem_blockerLots (L := L) ha (s := s)
  refine ⟨g.n1, fun z => ?_, ⟨fun l h => ((mem l).mp h).1, blockerLots_lt ha, fun l h m h' s => ?_⟩, fun l h z => ?_, fun l h x hx => ?_⟩
  · have ht : TrM L (maskOf (List.range n)) := fun l hl => by
      obtain ⟨x, hx⟩ := List.exists_mem_of_ne_nil _ (g.lne l hl)
      exact ⟨x, hx, (mask_bit_iff (range_asc n)).mpr (List.mem_range.mpr (g.lt l hl x hx))⟩
    obtain ⟨k, hk, _⟩ := min_in _ ht
    have : thingsOf k ∈ blockerLots L := (mem _).mpr ⟨things_asc k, by rw [mask_things]; exact hk⟩
    rw [z] at this
    cases this
  · have a := ((mem l).mp h)
    have b := ((mem m).mp h')
    exact mask_inj a.1 b.1 (MinM.eq a.2.1 b.2 fun i hi => (mask_bit_iff b.1).mpr (s i ((mask_bit_iff a.1).mp hi)))
  · obtain ⟨k, hk⟩ := List.exists_mem_of_ne_nil _ g.ne
    obtain ⟨x, _, hb⟩ := ((mem l).mp h).2.1 k hk
    rw [z] at hb
    simp [maskOf] at hb
  · exact min_lt g.lt ((mem l).mp h).2 ((mask_bit_iff ((mem l).mp h).1).mpr hx)
/-! a set or its rest -/
theorem set_or_rest {L : List T} {n : Nat} (g : GF n L) {s : T} (hs : ∀ x ∈ s, x < n) : holds (blockerLots L) (rest n s) = !holds L s := by
  have ha := g.g.asc
  rw [Bool.eq_iff_iff, holds_iff, Bool.not_eq_true', ← Bool.not_eq_true, holds_iff]
  constructor
  · rintro ⟨b, hb, h1⟩ ⟨l, hl, h2⟩
    obtain ⟨hb1, hb2⟩ := (mem_blockerLots ha).mp hb
    obtain ⟨x, hx, hbit⟩ := hb2.1 l hl
    exact (mem_rest.mp (h1 x ((mask_bit_iff hb1).mp hbit))).2 (h2 x hx)
  · intro h
    have ht : TrM L (maskOf (rest n s)) := fun l hl => by
      obtain ⟨x, hx, hns⟩ : ∃ x ∈ l, x ∉ s := Classical.byContradiction fun z => h ⟨l, hl, fun x hx => Classical.byContradiction fun z2 => z ⟨x, hx, z2⟩⟩
      exact ⟨x, hx, (mask_bit_iff (rest_asc n s)).mpr (mem_rest.mpr ⟨g.lt l hl x hx, hns⟩)⟩
    obtain ⟨k, hk, hsub⟩ := min_in _ ht
    refine ⟨thingsOf k, (mem_blockerLots ha).mpr ⟨things_asc k, by rw [mask_things]; exact hk⟩, fun x hx => ?_⟩
    exact (mask_bit_iff (rest_asc n s)).mp (hsub x (mem_things.mp hx))
/-! the quiet sets -/
def quiet (n : Nat) (L : List T) : List T := srt ((blockerLots L).map (rest n))
theorem mem_quiet {L : List T} {n : Nat} {s : T} : s ∈ quiet n L ↔ ∃ b ∈ blockerLots L, rest n b = s := by
  unfold quiet
  rw [srt_mem, List.mem_map]
theorem quiet_within {L : List T} {n : Nat} (g : GF n L) {s : T} (hs : ∀ x ∈ s, x < n) : within s (quiet n L) = !holds L s := by
  rw [← set_or_rest g hs, Bool.eq_iff_iff, within_iff, holds_iff]
  constructor
  · rintro ⟨o, ho, h1⟩
    obtain ⟨b, hb, rfl⟩ := mem_quiet.mp ho
    exact ⟨b, hb, fun x hx => mem_rest.mpr ⟨(blocker_gf g).lt b hb x hx, fun hxs => (mem_rest.mp (h1 x hxs)).2 hx⟩⟩
  · rintro ⟨b, hb, h1⟩
    exact ⟨rest n b, mem_quiet.mpr ⟨b, hb, rfl⟩, fun x hx => mem_rest.mpr ⟨hs x hx, fun hxb => (mem_rest.mp (h1 x hxb)).2 hx⟩⟩
theorem quiet_ne {L : List T} {n : Nat} (g : GF n L) : ∀ s ∈ quiet n L, True := fun _ _ => trivial
/-! what the program asks: masks -/
theorem mask_holds {L : List T} (ha : ∀ l ∈ L, Asc l) {f : T} (nd : f.Nodup) : (L.any fun l => maskOf l &&& maskOf (sortN f) == maskOf l) = holds L f := by
  unfold holds
  rw [Bool.eq_iff_iff, List.any_eq_true, List.any_eq_true]
  refine exists_congr fun l => and_congr_right fun hl => ?_
  rw [beq_iff_eq, and_left_iff, inside_iff]
  constructor
  · intro h x hx
    exact sortN_mem.mp ((mask_bit_iff (sortN_nd nd)).mp (h x ((mask_bit_iff (ha l hl)).mpr hx)))
  · intro h i hi
    exact (mask_bit_iff (sortN_nd nd)).mpr (sortN_mem.mpr (h i ((mask_bit_iff (ha l hl)).mp hi)))
theorem holds_congr {L : List T} {f g : T} (h : ∀ x, x ∈ f ↔ x ∈ g) : holds L f = holds L g := by
  rw [Bool.eq_iff_iff, holds_iff, holds_iff]
  simp only [h]
/-! sizes -/
theorem nodup_len {k : List Nat} {b : Nat} (nd : k.Nodup) (h : ∀ m ∈ k, m < b) : k.length ≤ b := by
  have e : sortN k = (List.range b).filter (fun x => decide (x ∈ k)) := asc_ext (sortN_nd nd) ((range_asc b).filter _) fun x => by
    rw [sortN_mem, List.mem_filter, List.mem_range, decide_eq_true_iff]
    exact ⟨fun hx => ⟨h x hx, hx⟩, fun hx => hx.2⟩
  have h1 := List.length_filter_le (fun x => decide (x ∈ k)) (List.range b)
  rw [← e, List.length_range, (sortN_perm k).length_eq] at h1
  exact h1
theorem kept_len {L : List T} {n : Nat} (ha : ∀ l ∈ L, Asc l) (hl : ∀ l ∈ L, ∀ x ∈ l, x < n) (i : Nat) : ((L.take i).foldl blkStep [0]).length ≤ 2 ^ n := by
  have hs : ∀ l ∈ L.take i, l ∈ L := fun l h => (List.take_sublist i L).subset h
  have kp := blk_spec (L := L.take i) fun l h => ha l (hs l h)
  refine nodup_len kp.nd fun m hm => ?_
  refine Nat.lt_pow_two_of_testBit m fun j hj => ?_
  cases hb : m.testBit j with
  | false => rfl
  | true =>
    have := min_lt (n := n) (fun l h => hl l (hs l h)) ((kp.mem m).mp hm) hb
    omega
theorem blockerLots_len (L : List T) : (blockerLots L).length = (L.foldl blkStep [0]).length := by
  unfold blockerLots lotsOfMasks
  rw [srt_len, List.length_map]
theorem gf_len {L : List T} {n : Nat} (g : GF n L) : L.length ≤ 2 ^ n := by
  have h : (L.map maskOf).length ≤ 2 ^ n := nodup_len (List.pairwise_map.mpr ((List.Pairwise.and_mem.mp (nodup_of_lt g.g.lt)).imp fun {a b} h e => h.2.2 (mask_inj (g.g.asc a h.1) (g.g.asc b h.2.1) e))) fun m hm => by
    obtain ⟨l, hl, rfl⟩ := List.mem_map.mp hm
    refine Nat.lt_pow_two_of_testBit _ fun j hj => ?_
    rw [mask_bit (g.g.asc l hl), decide_eq_false_iff_not]
    intro h
    have := g.lt l hl j h
    omega
  rwa [List.length_map] at h
end KM
set_option autoImplicit false
/-! The written families. -/
namespace KM
theorem gf_srt {n : Nat} {X : List T} (n1 : 1 ≤ n) (ne : X ≠ []) (nd : X.Nodup) (ha : ∀ l ∈ X, Asc l) (hn : ∀ l ∈ X, l ≠ []) (hl : ∀ l ∈ X, ∀ x ∈ l, x < n) (an : ∀ l ∈ X, ∀ m ∈ X, (∀ x ∈ l, x ∈ m) → l = m) : GF n (srt X) := by
  refine ⟨n1, fun z => ?_, ⟨fun l h => ha l (srt_mem.mp h), srt_lt nd, fun l h m h' => an l (srt_mem.mp h) m (srt_mem.mp h')⟩, fun l h => hn l (srt_mem.mp h), fun l h => hl l (srt_mem.mp h)⟩
  have := srt_len X
  rw [z] at this
  exact ne (List.length_eq_zero_iff.mp this.symm)
theorem fan4 : GF 4 (fanL 4) := gf_srt (by decide) (by decide) (by decide) (by decide) (by decide) (by decide) (by decide)
theorem fan5 : GF 5 (fanL 5) := gf_srt (by decide) (by decide) (by decide) (by decide) (by decide) (by decide) (by decide +kernel)
theorem ring5 : GF 5 (ringL 5) := gf_srt (by decide) (by decide) (by decide) (by decide) (by decide) (by decide) (by decide)
theorem ring6 : GF 6 (ringL 6) := gf_srt (by decide) (by decide) (by decide) (by decide) (by decide) (by decide) (by decide +kernel)
theorem four : GF 4 (srt [[0, 1], [0, 2], [0, 3], [1, 2]]) := gf_srt (by decide) (by decide) (by decide) (by decide) (by decide) (by decide) (by decide)
theorem one1 {n : Nat} (h : 1 ≤ n) : GF n [[0]] := by
  have : GF 1 [[0]] := ⟨by decide, by decide, ⟨by decide, by decide, by decide⟩, by decide, by decide⟩
  exact this.up h
theorem sized42 : (sized 4 2).length = 6 := by
  unfold sized
  rw [srt_len]
  decide +kernel
theorem sized52 : (sized 5 2).length = 10 := by
  unfold sized
  rw [srt_len]
  decide +kernel
theorem sized53 : (sized 5 3).length = 10 := by
  unfold sized
  rw [srt_len]
  decide +kernel
theorem ring_gf : ∀ n, 8 ≤ n → n ≤ 12 → GF n (ringL n) := by
  intro n h1 h2
  have h : n = 8 ∨ n = 9 ∨ n = 10 ∨ n = 11 ∨ n = 12 := by omega
  rcases h with rfl | rfl | rfl | rfl | rfl <;> exact gf_srt (by decide) (by decide) (by decide +kernel) (by decide +kernel) (by decide +kernel) (by decide +kernel) (by decide +kernel)
end KM
set_option Elab.async false
set_option linter.all false
set_option autoImplicit false
set_option maxRecDepth 100000
set_option maxHeartbeats 2000000
/-! As EX1, with a text in the field word. -/
namespace Y
open PySem PySem.W PySem.Calls PyProof.Rows Builtin.ObjectAttr
/-- the body of such an __init__ -/
def exsBody (txt : Str) (j : Nat) (p0 p1 p2 p3 p4 p5 p6 p7 p8 p9 p10 p11 p12 : Pos) : List Stmt :=
  [.Expr (.Call (.Attribute (.Call (.Name "super" p0) [] [] p1) "__init__" p2) [.JoinedStr [.Constant (.str txt) j p3, .FormattedValue (.Name "word" p4) (-1) none p5] p6] [] p7) p8,
   .Assign [.Attribute (.Name "self" p9) "word" p10] (.Name "word" p11) p12]
def exsScope : Scope := { kind := .function, names := [("self", .local), ("word", .local), ("__class__", .free), ("super", .globalImplicit)], isGenerator := false, isCoroutine := false, more := [] }
/-- the class at C, its __init__ at f -/
structure ExcS (K : Frag) (P : Program) (C f : Addr) (txt : Str) : Prop where
  ini : findIn K (.ref C) "__init__" = some (some (.ref f))
  own : excInitIn K C excB "Exception.__new__" = true
  ovr : excOver K C excB = true
  fn : isFn K (.ref f) = true
  def_ : ∃ (oc : Value) (od : Option Addr) (qual : Str) (par : Arguments) (dV kV doc pm ct : Value) (an : Option Addr) (cda cc : Addr) (osl : Array (Option Value)) (j : Nat) (p0 p1 p2 p3 p4 p5 p6 p7 p8 p9 p10 p11 p12 : Pos) (ar : Arg),
    K.lookup f = some ⟨oc, od, .func (ksFn "__init__" qual par (exsBody txt j p0 p1 p2 p3 p4 p5 p6 p7 p8 p9 p10 p11 p12) exsScope dV kV doc pm an (.ref cda) ct cc), osl⟩ ∧ codeIn K (.ref cda) qual = true ∧
      (∀ u v : Value, bindArgs (ksFn "__init__" qual par (exsBody txt j p0 p1 p2 p3 p4 p5 p6 p7 p8 p9 p10 p11 p12) exsScope dV kV doc pm an (.ref cda) ct cc) ⟨[u, v], []⟩ = (pure [(("self" : Str), u), (("word" : Str), v)] : Sem (List (Str × Value)))) ∧
      (par.posonlyargs ++ par.args).head? = some ar ∧ ar.arg = "self" ∧
      (∃ ccl cdd vs ccs file tf, K.lookup cda = some ⟨ccl, cdd, .fields vs, ccs⟩ ∧ vs[2]? = some (.str file tf) ∧ ((P.main.file : Str) == file) = true) ∧
      (∀ L : Addr, ∃ pl : Sem Bool, eval (.Call (.Attribute (.Call (.Name "super" p0) [] [] p1) "__init__" p2) [.JoinedStr [.Constant (.str txt) j p3, .FormattedValue (.Name "word" p4) (-1) none p5] p6] [] p7) (ksEnv qual exsScope L f (.ref cda) cc) = (do
      let ov ← attributeBase (.Call (.Name "super" p0) [] [] p1) "__init__" (ksEnv qual exsScope L f (.ref cda) cc) (eval (.Call (.Name "super" p0) [] [] p1) (ksEnv qual exsScope L f (.ref cda) cc))
      standAt p2.atName
      let (fm, first) ← holding [ov] (getMethod ov "__init__" pl)
      callWith p7 fm first (backTo p7 (starEach [.JoinedStr [.Constant (.str txt) j p3, .FormattedValue (.Name "word" p4) (-1) none p5] p6] (ksEnv qual exsScope L f (.ref cda) cc))) [])) ∧
      ∃ cl cld csl, K.lookup cc = some ⟨cl, cld, .cell (some (.ref C)), csl⟩
  sup : ks_superIn K C C "__init__" = some (some (.builtin "Exception.__init__"))
  opq : nsIn K cStatics "thirdparty.any" = some none
  sub : subIn K (.ref C) (.type "Exception") = some true
  slf : mroIn K C (.ref C) = some true
  sa : findIn K (.ref C) "__setattr__" = some (some (.builtin "object.__setattr__"))
  tk : takerIn K C "word" = some none
  hd : hasDictIn K C = true
  exC : subIn K (.ref C) (.type "BaseException") = some true
  tyC : typeIn K (.ref C) = some (.type "type")
  kC : keepIn K (.ref C) = true
  top : (P.main.scope.names.lookup ("super" : Str)).isSome = false
section
variable {P : Program} {w : World} {K : Frag} {C f : Addr} {txt : Str} {mg mb : Str → Option Value}
theorem exs_store {A : Around} {E : Value → Shared → Prop} {s : Shared} {x t : Addr} {v : Value} {Q : Unit → Shared → Prop} (c : ExcS K P C f txt) (X : K.In s.heap) (hx : s.heap.get? x = some (excObj C t none .none))
    (q : ∀ dx h' tk, (∀ b o, b ≠ x → s.heap.get? b = some o → h'.get? b = some o) → s.heap.objs.size ≤ dx → h'.get? x = some (excObj C t (some dx) .none) → h'.Ns1 dx (fun y => if y = "word" then some v else none) → Q () { s with heap := h', toks := tk }) :
    wpAny (model P w) A (setAttr (.ref x) "word" v) Q E s := by
  have I : InstAt s.heap x (excObj C t none .none) C none := ⟨hx, rfl, rfl, trivial⟩
  obtain ⟨cd, hcd, hdd⟩ := any_some c.hd
  have xs : x ≠ s.heap.objs.size := Nat.ne_of_lt (Heap.lt_size hx)
  obtain ⟨h, g, d, tk0, os⟩ := s
  refine set_plain X I c.sa (osa_openX (od := none) PySem.F.store_Exception X I c.ovr c.tk fun b => ?_)
  refine wpAny_bind (wpAny_pure (wpAny_bind (instanceDict_exc hx (looks_clsIn X hcd) hdd ?_)))
  show wpAny _ _ (storeInDict h.objs.size _ _ v) _ _ _
  have hx1 : (h.push (dictOf [] 0)).get? x = some (excObj C t none .none) := Heap.get?_push_of_some _ hx
  refine PySem.HandSPX.store_in_new ⟨_, #[], _, (Heap.get?_update_ne _ _ _ _ xs.symm).trans (Heap.get?_push_at rfl rfl), rfl, (fun e he => absurd he (by simp)), fun _ => rfl⟩ fun h' tk' hn hs => ?_
  refine q h.objs.size h' tk' (fun b o hb ho => ?_) (Nat.le_refl _) ?_ hn
  · exact (hs.2 b (Nat.ne_of_lt (Heap.lt_size ho))).trans ((Heap.get?_update_ne _ _ _ _ hb).trans (Heap.get?_push_of_some _ ho))
  · exact (hs.2 x xs).trans (Heap.get?_update_self _ hx1 rfl)
theorem exs_body {A : Around} {E : Value → Shared → Prop} {s : Shared} {R : Flow → Shared → Prop} {G : Heap} {m : Str → Option Value} {L x t : Addr} {n : Str} {tn : Tok} {rest : List Value} {oc cl ccl : Value} {od cld cdd : Option Addr} {qual file : Str} {par : Arguments} {dV kV doc pm ct : Value} {an : Option Addr}
    {cda cc : Addr} {osl csl ccs : Array (Option Value)} {vs : Array Value} {tf : Tok} {j : Nat} {p0 p1 p2 p3 p4 p5 p6 p7 p8 p9 p10 p11 p12 : Pos} {ar : Arg} (c : ExcS K P C f txt)
    (F : Fr G L s.heap m) (X : K.In G) (N : News G L s.heap [(x, excObj C t none .none), (t, excTup rest)]) (xt : x ≠ t) (gg : G.Ns mainGlobals mg) (gs : mg "super" = none) (gb : G.Ns builtinsNs mb) (bs : mb "super" = some (.type "super"))
    (hf : K.lookup f = some ⟨oc, od, .func (ksFn "__init__" qual par (exsBody txt j p0 p1 p2 p3 p4 p5 p6 p7 p8 p9 p10 p11 p12) exsScope dV kV doc pm an (.ref cda) ct cc), osl⟩)
    (hp : (par.posonlyargs ++ par.args).head? = some ar) (har : ar.arg = "self") (hcd : K.lookup cda = some ⟨ccl, cdd, .fields vs, ccs⟩) (hvs : vs[2]? = some (.str file tf)) (hfile : ((P.main.file : Str) == file) = true)
    (hcc : K.lookup cc = some ⟨cl, cld, .cell (some (.ref C)), csl⟩) {pl : Sem Bool} (hcall : eval (.Call (.Attribute (.Call (.Name "super" p0) [] [] p1) "__init__" p2) [.JoinedStr [.Constant (.str txt) j p3, .FormattedValue (.Name "word" p4) (-1) none p5] p6] [] p7) (ksEnv qual exsScope L f (.ref cda) cc) = (do
      let ov ← attributeBase (.Call (.Name "super" p0) [] [] p1) "__init__" (ksEnv qual exsScope L f (.ref cda) cc) (eval (.Call (.Name "super" p0) [] [] p1) (ksEnv qual exsScope L f (.ref cda) cc))
      standAt p2.atName
      let (fm, first) ← holding [ov] (getMethod ov "__init__" pl)
      callWith p7 fm first (backTo p7 (starEach [.JoinedStr [.Constant (.str txt) j p3, .FormattedValue (.Name "word" p4) (-1) none p5] p6] (ksEnv qual exsScope L f (.ref cda) cc))) [])) (hm1 : m "self" = some (.ref x)) (hm2 : m "word" = some (.str n tn)) (ht : (Str.empty ++ txt ++ (n)).length ≤ sizeLine) (ht1 : (Str.empty ++ txt).length ≤ sizeLine)
    (q : ∀ h' t' dx tk, (∀ b o, G.get? b = some o → h'.get? b = some o) → h'.get? x = some (excObj C t' (some dx) .none) → h'.Ns1 dx (fun y => if y = "word" then some (.str n tn) else none) → G.objs.size ≤ dx → dx ≠ x → R .next { s with heap := h', toks := tk }) :
    PySem.wpAt (model P w) A (.func (exsBody txt j p0 p1 p2 p3 p4 p5 p6 p7 p8 p9 p10 p11 p12) (ksEnv qual exsScope L f (.ref cda) cc)) (execs (exsBody txt j p0 p1 p2 p3 p4 p5 p6 p7 p8 p9 p10 p11 p12) (ksEnv qual exsScope L f (.ref cda) cc)) R E s := by
  have XS : K.In s.heap := X.keeps F.keep
  have hnl : n.length ≤ sizeLine := by
    have := ht
    rw [PySem.Str.length_append] at this
    omega
  have I : InstAt s.heap x (excObj C t none .none) C none := ⟨(N (x, excObj C t none .none) (by simp)).1, rfl, rfl, trivial⟩
  obtain ⟨cd, hcdC, -⟩ := any_some c.hd
  refine ks_wpAt_execs_cons (ks_wpAt_Expr_any (ks_wpAt_MethodCall (pl := pl) ?_ hcall))
  obtain ⟨h, g, d, tk0, os⟩ := s
  obtain ⟨oD, hD1, hD2⟩ : ∃ oD, h.get? C = some oD ∧ oD.data = .cls cd := by
    unfold clsIn at hcdC
    split at hcdC
    · rename_i z1 z2 z3 z4 ho
      cases hcdC
      exact ⟨_, XS _ _ ho, rfl⟩
    · cases hcdC
  refine ks_wpAt_super_base (env := ksEnv qual exsScope L f (.ref cda) cc) rfl rfl (by decide) rfl (XS _ _ hf) rfl hp rfl (XS _ _ hcd) rfl hvs hfile c.top ?_
  refine ks_loadName_global rfl rfl (loadGlobal_builtin (env := ksEnv qual exsScope L f (.ref cda) cc) (gg.keeps F.keep) gs (gb.keeps F.keep) bs ⟨rfl, ?_⟩)
  refine wpAny_loadName_free rfl rfl rfl ⟨_, XS _ _ hcc, rfl⟩ ?_
  rw [har]
  refine wpAny_loadName_local rfl rfl F.ns hm1 ?_
  refine ks_wpAny_isType_cls hD1 hD2 ⟨rfl, ?_⟩
  refine ks_wpAny_call_super hD1 hD2 I.at_ I.cls (fun c' e => ?_) (looks_mroIn XS c.slf) (fun h1 e1 k1 => ?_)
  · cases e
  obtain ⟨F1, N1, l1⟩ := ks_newsPush (s := ⟨h, g, d, tk0, os⟩) F N rfl e1 k1
  have I1 : InstAt h1 x (excObj C t none .none) C none := ⟨(N1 (x, excObj C t none .none) (by simp)).1, rfl, rfl, trivial⟩
  refine kxs_method kxs_Exception (s := ⟨h1, g, d, tk0, os⟩) F1 X N1 (so := h.objs.size) (D := C) (by simp) I1 c.opq c.sup c.sub (by decide) fun q1 h2 F2 N2 l2 => ?_
  refine kxs_callWith1 (i := "Exception.__init__") (x := x) N2 (by simp) (spliced_more (env := ksEnv qual exsScope L f (.ref cda) cc) ?_)
  refine wpAny_JoinedStr ?_
  show Joins _ _ _ [eval _ _, eval _ _] _ _ _
  refine Constant_str ⟨txt, _, rfl, ht1, ?_⟩
  refine wpAny_FormattedValue_plain (wpAny_Name (wpAny_loadName_local rfl rfl F2.ns hm2 (wpAny_formatField_str (hx := hnl) ⟨_, _, rfl, ht, ?_⟩ ⟨_, _, rfl, ht, ?_⟩)))
  all_goals (
    refine ⟨ht, ?_⟩
    have xq : x < q1 := l2 (x, excObj C t none .none) (by simp)
    have xs : x < h.objs.size := l1 (x, excObj C t none .none) (by simp)
    refine spliced_none ⟨kxs_at N2 (by simp), ?_⟩
    refine kxs_call (x := x) F2 X N2 PySem.F.excBase_Exception c.own (by simp) (.tail (Nat.ne_of_gt xq) (.tail (Nat.ne_of_gt xs) (.head fun p hp => by
      have : p = (t, excTup rest) := by simpa using hp
      rw [this]
      exact fun z => xt z.symm))) (by simp [sizeLine_eq]) fun t3 h3 F3 N3 l3 => ?_
    have hx3 : h3.get? x = some (excObj C t3 none .none) := (N3 (x, excObj C t3 none .none) (by simp)).1
    refine ks_wpAt_execs_cons (ks_wpAt_Assign_Attr (wpAt_of_wpAny (wpAny_Name (wpAny_loadName_local rfl rfl F3.ns hm2 (wpAny_Name (wpAny_loadName_local rfl rfl F3.ns hm1 ?_))))))
    refine exs_store c (X.keeps F3.keep) hx3 fun dx h4 tk k4 hdx hx4 hn4 => ?_
    refine wpAt_of_wpAny (wpAny_execs_nil ?_)
    have gx : G.get? x = none := (N (x, excObj C t none .none) (by simp)).2.2
    have d3 : h3.get? dx = none := by
      cases z : h3.get? dx with
      | none => rfl
      | some o => exact absurd (Nat.lt_of_lt_of_le (Heap.lt_size z) hdx) (Nat.lt_irrefl _)
    refine q h4 t3 dx tk (fun b o e => k4 b o (fun z => by rw [z, gx] at e; cases e) (F3.keep b o e)) hx4 hn4 ?_ (fun z => by rw [z, hx3] at d3; cases d3)
    obtain ⟨oL, _, _, hoL, _⟩ := F3.ns
    exact Nat.le_trans F3.above (Nat.le_trans (Nat.le_of_lt (Heap.lt_size hoL)) hdx))
/-- C(word) -/
theorem exs_call {A : Around} {E : Value → Shared → Prop} {s : Shared} {n : Str} {tn : Tok} {Q : Value → Shared → Prop} (c : ExcS K P C f txt) (X : K.In s.heap) (lim : s.heap.NoLimit) (gg : s.heap.Ns mainGlobals mg) (gs : mg "super" = none) (gb : s.heap.Ns builtinsNs mb)
    (bs : mb "super" = some (.type "super")) (hr : (A.under (.builtin "type.__call__" ⟨[.ref C, .str n tn], []⟩)).depth < recursionLimit) (ht : (Str.empty ++ txt ++ (n)).length ≤ sizeLine) (ht1 : (Str.empty ++ txt).length ≤ sizeLine)
    (q : ∀ h' e t' dx tk, (∀ b o, s.heap.get? b = some o → h'.get? b = some o) → s.heap.objs.size ≤ e → h'.get? e = some (excObj C t' (some dx) .none) → h'.Ns1 dx (fun y => if y = "word" then some (.str n tn) else none) → s.heap.objs.size ≤ dx → dx ≠ e →
      Q (.ref e) { s with heap := h', toks := tk }) : wpAny (model P w) A (call (.ref C) [.str n tn]) Q E s := by
  obtain ⟨nm, N', qn, bs', bm, hdct, sn, sub, ab, col, dd, k0, k1, k2, k3, k5, hC, hT⟩ := excInit_of X c.own
  obtain ⟨oc, od, qual, par, dV, kV, doc, pm, ct, an, cda, cc, osl, j, p0, p1, p2, p3, p4, p5, p6, p7, p8, p9, p10, p11, p12, ar, hf, hcode, hbind, hp, har, ⟨ccl, cdd, vs, ccs, file, tf, hcd, hvs, hfile⟩, hcall, cl, cld, csl, hcc⟩ := c.def_
  have hi' : Looks (model P w) s.heap (typeLookup (.ref C) "__init__") (some (.ref f)) := looks_findIn X c.ini
  have hof := X _ _ hf
  have hcf : oc = .type "function" := by
    have := c.fn
    unfold isFn typeIn at this
    simp only [hf] at this
    simpa using this
  obtain ⟨h, g, d, tk0, os⟩ := s
  refine wpAny_call (PX.call_own PySem.F.excBase_Exception hT hC hi' (fun self => exc_bind hof hcf self) (by simp [sizeLine_eq]) ?_)
  have kk : ∀ b o, h.get? b = some o → ((h.push (excTup [.str n tn])).push (excObj C h.objs.size none .none)).get? b = some o := fun b o e => Heap.get?_push_of_some _ (Heap.get?_push_of_some _ e)
  refine ks_codeAny_call_defAt hr (kk _ _ hof) rfl (lim.keeps kk) (codeRec_of (X.keeps kk) hcode) rfl (.of_eq (hbind _ _)) (show ∀ y ∈ exsScope.names, y.2 ≠ .cell by decide) (fun y hy => by
    simp only [List.mem_cons, List.not_mem_nil, or_false] at hy
    rcases hy with rfl | rfl <;> rfl) fun h1 hns hk1 => ?_
  have sz : ((h.push (excTup [.str n tn])).push (excObj C h.objs.size none .none)).objs.size = h.objs.size + 2 := by rw [Heap.size_push, Heap.size_push]
  have none_of : ∀ {a : Addr}, h.objs.size ≤ a → h.get? a = none := fun {a} ha => by
    cases z : h.get? a with
    | none => rfl
    | some o => exact absurd (Nat.lt_of_lt_of_le (Heap.lt_size z) ha) (Nat.lt_irrefl _)
  have e1 : ((h.push (excTup [.str n tn])).push (excObj C h.objs.size none .none)).get? h.objs.size = some (excTup [.str n tn]) := by heap_get
  have e2 : ((h.push (excTup [.str n tn])).push (excObj C h.objs.size none .none)).get? (h.objs.size + 1) = some (excObj C h.objs.size none .none) := by heap_get
  refine exs_body (G := h) (x := h.objs.size + 1) (t := h.objs.size) (rest := [.str n tn]) c ⟨hns, fun b o e => hk1 b o (kk b o e), by rw [sz]; omega⟩ X (fun p hp => ?_) (Nat.succ_ne_self _) gg gs gb bs hf hp har hcd hvs hfile hcc (hcall _).choose_spec rfl rfl ht ht1 fun h' t' dx tk k he hd hdx hde => ?_
  · simp only [List.mem_cons, List.not_mem_nil, or_false] at hp
    rcases hp with rfl | rfl
    · exact ⟨hk1 _ _ e2, by rw [sz]; exact Nat.ne_of_lt (Nat.lt_succ_self _), none_of (Nat.le_succ _)⟩
    · exact ⟨hk1 _ _ e1, by rw [sz]; exact Nat.ne_of_lt (Nat.lt_of_lt_of_le (Nat.lt_succ_self _) (Nat.le_succ _)), none_of (Nat.le_refl _)⟩
  · exact ⟨rfl, q h' _ t' dx tk k (Nat.le_succ _) he hd hdx hde⟩
end
end Y
namespace Y
open PySem L2
section
variable {X : Cx} {C f : Addr} {txt : Str} {es : List Expr} {ta : TA} {e : Expr} {p pos : Pos} {k : Nat}
/-- C(e): an exception whose dict says word -/
def tExs (C : Addr) (ta : TA) : St → Hp → XK → Prop := fun σ H Q => ta σ H fun vs H1 => ∃ n : Str, vs = [.str n] ∧ n.length ≤ 100 ∧ ∀ d, H1 d = none → Q (.ref C) (some d) (upd H1 d (.xd [("word", .str n)]))
theorem text_fitS {n txt : Str} (hn : n.length ≤ 100) (ht : txt.length ≤ 100) : (Str.empty ++ txt ++ n).length ≤ sizeLine ∧ (Str.empty ++ txt).length ≤ sizeLine := by
  have e0 : Str.empty.length = 0 := rfl
  refine ⟨?_, ?_⟩
  · rw [PySem.Str.length_append, PySem.Str.length_append, sizeLine_eq]; omega
  · rw [PySem.Str.length_append, sizeLine_eq]; omega
theorem pmk_exs {x : Str} (c : ExcS X.K X.prog C f txt) (ht : txt.length ≤ 100) (hr : Room (k + 1) X.A) (hg : Gl X x) (hm : X.mg x = some (.ref C)) (gs : X.mg "super" = none) (ha : PA X (e :: es) ta)
    (hdb : (x == ("__debug__" : Str)) = false := by decide) (he : starEach (e :: es) X.env = (false, eval e X.env) :: starEach es X.env := by rfl) (hpl : (backTo pos (starEach es X.env)).any (·.1) = false := by rfl) :
    PMk X (.Call (.Name x p) (e :: es) [] pos) (tExs C ta) := by
  intro pins s σ H Q I h
  refine wpAny_Call_Name_kw (ld_glob I hg hm ?_ hdb)
  refine PySem.W.callWith_K (h₀ := X.base) I.ok.mod.kin c.kC (thn (ha.run pos pins s σ H _ I h) fun us s1 hh => ?_) he hpl
  obtain ⟨vs, H1, I1, r, n, rfl, hn, q⟩ := hh
  refine ⟨I1.kIn, ?_⟩
  obtain ⟨u, rfl, ru⟩ := r.one
  obtain ⟨tn, rfl⟩ := (show ∃ t, u = Value.str n t from ru)
  obtain ⟨t2, t3⟩ := text_fitS hn ht
  have kb : ∀ b o, X.base.get? b = some o → s1.heap.get? b = some o := fun b o z => (I1.env0.bs b o z).1
  obtain ⟨mb, hb1, hb2⟩ := I1.ok.mod.blt
  refine exs_call c I1.kIn (I1.ok.mod.nolimit.keeps kb) (I1.ok.mod.glob.keeps kb) gs (hb1.keeps kb) ((hb2 _ (by decide +kernel)).trans (by first | boot_by_name | rfl | kernel_rfl)) (hr.make C _ []).depth t2 t3 fun h' a t' dx tk kp ha' he' hd' hdx hda => ?_
  obtain ⟨G, g1, g2⟩ := restrict h' fun b => decide (b ≠ a)
  have gk : ∀ b, b ≠ a → G.get? b = h'.get? b := fun b hb => g1 b (decide_eq_true hb)
  have ge : G.get? a = none := g2 a (by simp)
  have kG : ∀ b o, s1.heap.get? b = some o → G.get? b = some o := fun b o z => by
    rw [gk b (Nat.ne_of_lt (Nat.lt_of_lt_of_le (Heap.lt_size z) ha'))]
    exact kp b o z
  have nd : H1 dx = none := I1.hok.fresh hdx
  have na : H1 a = none := I1.hok.fresh ha'
  have J : Inv X pins σ (upd H1 dx (.xd [("word", .str n)])) { s1 with heap := G, toks := tk } := by
    refine I1.laid kG hdx ⟨_, hd'.at fun o z => (gk dx hda).trans z, fun y => ?_⟩
    by_cases hy : y = "word"
    · subst hy
      simp only [if_pos rfl]
      rw [lookup_put, if_pos rfl]
      exact ⟨_, rfl⟩
    · rw [lookup_put, if_neg hy, if_neg hy]
      exact True.intro
  refine ⟨a, _, _, { s1 with heap := G, toks := tk }, _, .ref C, some dx, rfl, J, fun b o z => ?_, ge, he', ⟨rfl, rfl⟩, rfl, rfl, by rw [upd_ne hda.symm]; exact na, rfl, I1.bare, raises_own c.exC c.tyC, q dx nd⟩
  by_cases hb : b = a
  · subst hb
    have z' : G.get? b = some o := z
    rw [ge] at z'
    cases z'
  · exact (gk b hb).symm.trans z
end
end Y
set_option Elab.async false
set_option linter.all false
set_option autoImplicit false
set_option maxRecDepth 100000
set_option maxHeartbeats 1000000
/-! Defs that may raise C with one field, a number or a text. -/
namespace Y
open PySem L2
abbrev XF := List (Str × V)
/-- the promise: from ds the datum d, or C with the field x is raised -/
def PureE (K : PySem.W.Frag) (pre : List D → D → Prop) (preE : List D → Addr → XF → Prop) : Sp := fun vs H Q E => ∃ ds, IsAll K H vs ds ∧ ((∃ d, pre ds d ∧ ∀ v H', Ex H H' → Is K H' v d → Q v H') ∨
  ∃ C x, preE ds C x ∧ ∀ d H', Ex H H' → H' d = some (.xd x) → E (.ref C) (some d) H')
/-- what is wanted of C with the field x here -/
def WF_ (K : PySem.W.Frag) (B : List Addr) (H0 : Hp) (Z : Hp → Prop) (E : List Slot) (W : L2.WX) (C : Addr) (x : XF) : Prop := ∀ σ H, Env K B H0 Z E σ H → ∀ d, H d = some (.xd x) → W (.ref C) (some d) σ H
section
variable {K : PySem.W.Frag} {B : List Addr} {H0 : Hp} {Z : Hp → Prop} {E : List Slot} {ta tb tc te : TE} {t : TT} {ea : TA} {y z d : D} {l m : List D} {b c : Bool} {De : Ends} {tx : TS} {x : XF} {C : Addr} {pre : List D → D → Prop} {preE : List D → Addr → XF → Prop}
theorem ep_callE {ex : XK} (h : EA K B H0 Z ea E l) (hp : pre l d) : EP K B H0 Z (tCall (PureE K pre preE) [] ex ea) E d := fun σ H e Q q =>
  h σ H e _ fun vs H1 e1 h1 => ⟨l, by rw [List.append_nil]; exact h1, .inl ⟨d, hp, fun v H2 e2 h2 => q v H2 (e1.trans e2) h2⟩⟩
theorem ep_callES {ex : L2.St → XK} (h : EA K B H0 Z ea E l) (hp : pre l d) : EP K B H0 Z (tCallS (PureE K pre preE) ex ea) E d := fun σ H e Q q =>
  h σ H e _ fun vs H1 e1 h1 => ⟨l, h1, .inl ⟨d, hp, fun v H2 e2 h2 => q v H2 (e1.trans e2) h2⟩⟩
theorem er_callE {W : L2.WX} (h : EA K B H0 Z ea E l) (hp : preE l C x) (hw : WF_ K B H0 Z E W C x) : ER K B H0 Z (tCallS (PureE K pre preE) (WE W) ea) E := fun σ H e Q =>
  h σ H e _ fun vs H1 e1 h1 => ⟨l, h1, .inr ⟨C, x, hp, fun dd H2 e2 h2 => hw σ H2 (e.ext (e1.trans e2)) dd h2⟩⟩
theorem sd_raiseF {W : L2.WX} {n : Int} (h : EA K B H0 Z ea E [.int n]) (hn : n.natAbs < 1000000) (hw : WF_ K B H0 Z E W C [("place", .int n)]) : SD K B H0 Z (fun _ σ H => tExc C ea σ H fun cls d H' => W cls d σ H') De E := fun σ H e =>
  h σ H e _ fun vs H1 e1 h1 => by
    cases h1 with
    | cons a t =>
      cases a; cases t
      exact ⟨n, rfl, hn, fun d nd => hw σ _ (e.ext (e1.trans (Ex.new nd))) d upd_same⟩
theorem sd_raiseS {W : L2.WX} {n : Str} (h : EA K B H0 Z ea E [.str n]) (hn : n.length ≤ 100) (hw : WF_ K B H0 Z E W C [("word", .str n)]) : SD K B H0 Z (fun _ σ H => tExs C ea σ H fun cls d H' => W cls d σ H') De E := fun σ H e =>
  h σ H e _ fun vs H1 e1 h1 => by
    cases h1 with
    | cons a t =>
      cases a; cases t
      exact ⟨n, rfl, hn, fun d nd => hw σ _ (e.ext (e1.trans (Ex.new nd))) d upd_same⟩
theorem wf_of {H : Hp} {W : XK} (h : ∀ d H', Ex H H' → H' d = some (.xd x) → W (.ref C) (some d) H') : WF_ K [] H Z E (fun cls d _ H' => W cls d H') C x := fun σ H' e d q =>
  h d H' (fun a o z => e.ex a o (by simp) z) q
end
section
variable {P : Program} {w : World} {K : PySem.W.Frag} {mg : Str → Option Value} {base : Heap}
theorem pureE_ok {x qual : Str} {st : Stmt} {f : Addr} {fd : FuncData} {N ps : List Str} {k : Nat} {pre : List D → D → Prop} {preE : List D → Addr → XF → Prop} (F : Fun K x qual st f fd) (S : FnScope N ps (defScope st)) (len : ∀ ds, ((∃ d, pre ds d) ∨ ∃ C n, preE ds C n) → ds.length = ps.length) (hN : ps.length ≤ N.length)
    (hb : ∀ (cdv : Value) (A : Around) (outer : List PySem.Env) (s : Shared) (H : Hp) (E : XK), Room k (A.deeper (PyProof.Rows.envOfC qual (defScope st) s.heap.objs.size f cdv)) →
      ∃ t, PSs (cxOf (L2.CX P w) P w K mg base N qual (defScope st) f cdv A outer s H E) (defBody st) t ∧ (∀ ds d, pre ds d → ∀ D : Ends, Ok K H D d → SD K [] H (fun _ => True) t D (entry N ds)) ∧
        ∀ ds C n, preE ds C n → ∀ D : Ends, (∀ d H', Ex H H' → H' d = some (.xd n) → E (.ref C) (some d) H') → SD K [] H (fun _ => True) t D (entry N ds)) :
    FnOk P w K mg base (L2.CX P w) (k + 1) f fd ps (PureE K pre preE) := by
  refine F.okX S (fun vs H Q E h => ?_) (fun cdv A outer s H vs Q E hr h => ?_)
  · obtain ⟨ds, h1, h2⟩ := h
    rw [h1.length]
    rcases h2 with ⟨d, h2, _⟩ | ⟨C, n, h2, _⟩
    · exact len ds (.inl ⟨d, h2⟩)
    · exact len ds (.inr ⟨C, n, h2⟩)
  · obtain ⟨t, ht, hs, hx⟩ := hb cdv A outer s H E hr
    refine ⟨t, ht, ?_⟩
    obtain ⟨ds, h1, h2⟩ := h
    rcases h2 with ⟨d, h2, h3⟩ | ⟨C, n, h2, h3⟩
    · refine hs ds d h2 _ ⟨fun v H' e i => h3 v H' (fun a o q => e a o (by simp) q) i, fun hd σ H' e => h3 .non H' e (hd ▸ .non)⟩ _ _ (env_entry h1 ?_)
      have := len ds (.inl ⟨d, h2⟩)
      omega
    · refine hx ds C n h2 _ (fun d H' e q => h3 d H' e q) _ _ (env_entry h1 ?_)
      have := len ds (.inr ⟨C, n, h2⟩)
      omega
end
end Y
set_option Elab.async false
set_option linter.all false
set_option autoImplicit false
set_option maxRecDepth 100000
set_option maxHeartbeats 1000000
/-! Star defs and instances called, what leaves them by the slots. -/
namespace Y
open PySem L2 PyProof.Rows
section
variable {X : Cx} {CX : CXT} {k : Nat} {f C g : Addr} {sp : Sp} {E : L2.St → XK} {x : Str} {e fe : Expr} {es : List Expr} {tf : TE} {t : TA} {p pos : Pos}
theorem run_fnRS {pins : List (Addr × Obj)} {σ : L2.St} {H : Hp} {s : Shared} {Q : VK} {us : List Value} {vs : List V} (F : FnR X.prog X.w X.K X.mg X.base CX k f sp) (hr : Room k X.A) (hx : PassesAt CX X σ (E σ)) (I : Inv X pins σ H s) (r : Vals vs us) (h : sp vs H Q (E σ)) :
    codeAny (model X.prog X.w) X.A (.call (.ref f) ⟨us, []⟩) (fun r s' => match r with | .ok (.ret v) => L2.EP X pins σ Q v s' | .ok _ => False | .error e => X.xe e s') s :=
  codeAny_mono (F X.A X.stack s H us vs Q (E σ) hr I.env0 r h) fun r s' hq => by
    cases r with
    | error e => exact hx pins H s e s' I hq
    | ok fl => cases fl <;> first | exact I.after hq | exact False.elim hq
/-- x(e, ..), x a def by its values -/
theorem pe_callRS (F : FnR X.prog X.w X.K X.mg X.base CX k f sp) (hr : Room k X.A) (hg : Gl X x) (hm : X.mg x = some (.ref f)) (hk : PySem.W.keepIn X.K (.ref f) = true) (hx : ∀ σ, PassesAt CX X σ (E σ)) (ha : PA X (e :: es) t)
    (hdb : (x == ("__debug__" : Str)) = false := by decide) (he : starEach (e :: es) X.env = (false, eval e X.env) :: starEach es X.env := by rfl) (hpl : (backTo pos (starEach es X.env)).any (·.1) = false := by rfl) :
    PE X (.Call (.Name x p) (e :: es) [] pos) (tCallS sp E t) :=
  ⟨fun pins s σ H Q I h => wpAny_Call_Name_kw (ld_glob I hg hm (PySem.W.callWith_K (h₀ := X.base) I.ok.mod.kin hk (thn (ha.run pos pins s σ H _ I h) fun us s1 ⟨vs, H1, I1, r, q⟩ => ⟨I1.kIn, wpAny_call (run_fnRS F hr (hx σ) I1 r q)⟩) he hpl) hdb)⟩
/-- x() -/
theorem pe_callRS0 (F : FnR X.prog X.w X.K X.mg X.base CX k f sp) (hr : Room k X.A) (hg : Gl X x) (hm : X.mg x = some (.ref f)) (hk : PySem.W.keepIn X.K (.ref f) = true) (hx : ∀ σ, PassesAt CX X σ (E σ))
    (hdb : (x == ("__debug__" : Str)) = false := by decide) : PE X (.Call (.Name x p) [] [] pos) (tCallS sp E tNil) :=
  ⟨fun pins s σ H Q I h => wpAny_Call_Name_kw (ld_glob I hg hm (PySem.W.callWith_K0 I.kIn hk (wpAny_call (run_fnRS (us := []) (vs := []) F hr (hx σ) I .nil h))) hdb)⟩
/-- f(e, ..), f an expression that gives an instance of C -/
def tCallOS (C : Addr) (sp : Sp) (E : L2.St → XK) (tf : TE) (t : TA) : TE := fun σ H Q => tf σ H fun y H1 => ∃ a, y = V.ref a ∧ t σ H1 fun vs H2 => (∃ dx fs, H2 a = some (.ins C dx fs)) ∧ sp (V.ref a :: vs) H2 Q (E σ)
theorem pe_callOS (hf : PE X fe tf) (c : StX.CallO X.K C g) (F : FnR X.prog X.w X.K X.mg X.base CX k g sp) (hr : Room k X.A) (hx : ∀ σ, PassesAt CX X σ (E σ)) (ha : PA X (e :: es) t)
    (ht : eval (.Call fe (e :: es) [] pos) X.env = (do callWith pos (← eval fe X.env) [] (backTo pos (starEach (e :: es) X.env)) (backToKw pos (keywordEach [] X.env))) := by rfl)
    (he : starEach (e :: es) X.env = (false, eval e X.env) :: starEach es X.env := by rfl) (hpl : (backTo pos (starEach es X.env)).any (·.1) = false := by rfl) : PE X (.Call fe (e :: es) [] pos) (tCallOS C sp E tf t) := by
  refine ⟨fun pins s σ H Q I h => Call_ (thn (hf.run pins s σ H _ I h) fun u s1 ⟨y, H1, I1, ry, a, ey, q⟩ => ?_) ht⟩
  subst ey
  obtain rfl : u = Value.ref a := ry
  refine StX.callO_with (thn (ha.run pos pins s1 σ H1 _ I1 q) fun us s2 ⟨vs, H2, I2, r, hi, q2⟩ => ?_) he hpl
  obtain ⟨ox, od, J, hd⟩ := StX.insC_at I2 (.inr hi)
  exact ⟨⟨C, ox, od, J, hd⟩, wpAny_call (PySem.W.kco_code I2.kIn J hd c.at_ c.fn c.fi (run_fnRS (us := .ref a :: us) (vs := .ref a :: vs) F hr (hx σ) I2 (.cons rfl r) q2))⟩
end
/-- defs with a star; the class' __call__ -/
structure ClR (P : Program) (w : World) (K : PySem.W.Frag) (mg : Str → Option Value) (base : Heap) (k : Nat) (x : Str) (sp : Sp) : Prop where
  ex : ∃ (f : Addr), FnR P w K mg base (L2.CX P w) k f sp ∧ mg x = some (.ref f) ∧ PySem.W.keepIn K (.ref f) = true
structure ClC (P : Program) (w : World) (K : PySem.W.Frag) (mg : Str → Option Value) (base : Heap) (k : Nat) (C : Addr) (sp : Sp) : Prop where
  ex : ∃ (g : Addr), FnR P w K mg base (L2.CX P w) k g sp ∧ StX.CallO K C g
section
variable {X : Cx} {k j : Nat} {C : Addr} {sp : Sp} {x : Str} {e fe : Expr} {es : List Expr} {tf : TE} {t : TA} {p pos : Pos} {W : L2.WX}
theorem pe_clR (c : ClR X.prog X.w X.K X.mg X.base k x sp) (hr : Room j X.A) (hk : k ≤ j) (hg : Gl X x) (tk : L2.Takes X W) (ha : PA X (e :: es) t)
    (hdb : (x == ("__debug__" : Str)) = false := by decide) (he : starEach (e :: es) X.env = (false, eval e X.env) :: starEach es X.env := by rfl) (hpl : (backTo pos (starEach es X.env)).any (·.1) = false := by rfl) :
    PE X (.Call (.Name x p) (e :: es) [] pos) (tCallS sp (WE W) t) := by
  obtain ⟨f, F, hm, kp⟩ := c.ex
  exact pe_callRS F (hr.mono hk) hg hm kp (passAt tk) ha hdb he hpl
theorem pe_clR0 (c : ClR X.prog X.w X.K X.mg X.base k x sp) (hr : Room j X.A) (hk : k ≤ j) (hg : Gl X x) (tk : L2.Takes X W) (hdb : (x == ("__debug__" : Str)) = false := by decide) : PE X (.Call (.Name x p) [] [] pos) (tCallS sp (WE W) tNil) := by
  obtain ⟨f, F, hm, kp⟩ := c.ex
  exact pe_callRS0 F (hr.mono hk) hg hm kp (passAt tk) hdb
theorem pe_clC (c : ClC X.prog X.w X.K X.mg X.base k C sp) (hr : Room j X.A) (hk : k ≤ j) (tk : L2.Takes X W) (hf : PE X fe tf) (ha : PA X (e :: es) t)
    (ht : eval (.Call fe (e :: es) [] pos) X.env = (do callWith pos (← eval fe X.env) [] (backTo pos (starEach (e :: es) X.env)) (backToKw pos (keywordEach [] X.env))) := by rfl)
    (he : starEach (e :: es) X.env = (false, eval e X.env) :: starEach es X.env := by rfl) (hpl : (backTo pos (starEach es X.env)).any (·.1) = false := by rfl) : PE X (.Call fe (e :: es) [] pos) (tCallOS C sp (WE W) tf t) := by
  obtain ⟨g, F, cc⟩ := c.ex
  exact pe_callOS hf cc F (hr.mono hk) (passAt tk) ha ht he hpl
end
section
variable {K : PySem.W.Frag} {B : List Addr} {H0 : Hp} {Z : Hp → Prop} {E : List Slot} {tf : TE} {ea : TA} {d : D} {l m : List D} {C : Addr} {ns : List Str} {pre : List D → D → Prop} {preE : List D → Addr → XF → Prop}
theorem ep_callO {W : L2.St → XK} (hf : EP K B H0 Z tf E (.ins C ns l)) (h : EA K B H0 Z ea E m) (hp : pre (.ins C ns l :: m) d) : EP K B H0 Z (tCallOS C (PureE K pre preE) W tf ea) E d := fun σ H e Q q =>
  hf σ H e _ fun v H1 e1 h1 => by
    obtain ⟨a, dx, fs, rfl, ha, hn, hl⟩ := h1.ins_inv
    exact ⟨a, rfl, h σ H1 (e.ext e1) _ fun vs H2 e2 h2 => ⟨⟨dx, fs, e2 _ _ ha⟩, _, .cons (h1.mono e2) h2, .inl ⟨d, hp, fun v H3 e3 h3 => q v H3 ((e1.trans e2).trans e3) h3⟩⟩⟩
theorem er_callO {W : L2.WX} {C' : Addr} {x : XF} (hf : EP K B H0 Z tf E (.ins C ns l)) (h : EA K B H0 Z ea E m) (hp : preE (.ins C ns l :: m) C' x) (hw : WF_ K B H0 Z E W C' x) : ER K B H0 Z (tCallOS C (PureE K pre preE) (WE W) tf ea) E := fun σ H e Q =>
  hf σ H e _ fun v H1 e1 h1 => by
    obtain ⟨a, dx, fs, rfl, ha, hn, hl⟩ := h1.ins_inv
    exact ⟨a, rfl, h σ H1 (e.ext e1) _ fun vs H2 e2 h2 => ⟨⟨dx, fs, e2 _ _ ha⟩, _, .cons (h1.mono e2) h2, .inr ⟨C', x, hp, fun dd H3 e3 h3 => hw σ H3 (e.ext ((e1.trans e2).trans e3)) dd h3⟩⟩⟩
end
/-! a def f(*xs) -/
theorem bind_star0 {B : List Value → Sem (List (Str × Value))} {pv : Str} (h0 : B [] = (newTuple [] >>= fun t => pure [(pv, t)])) (h1 : ∀ r rs, B (r :: rs) = (newTuple (r :: rs) >>= fun t => pure [(pv, t)])) :
    ∀ us rest : List Value, us.length = ([] : List Str).length → B (us ++ rest) = (newTuple rest >>= fun t => pure (([] : List Str).zip us ++ [(pv, t)]))
  | [], [], _ => h0
  | [], r :: rs, _ => h1 r rs
section
variable {P : Program} {w : World} {K : PySem.W.Frag} {mg : Str → Option Value} {base : Heap}
theorem starE_ok {x qual pv : Str} {st : Stmt} {f : Addr} {fd : FuncData} {N : List Str} {k : Nat} {pre : List D → D → Prop} {preE : List D → Addr → XF → Prop} (F : Fun K x qual st f fd) (S : FnScope N [pv] (defScope st))
    (hbd : ∀ us rest : List Value, us.length = ([] : List Str).length → bindArgs fd ⟨us ++ rest, []⟩ = (newTuple rest >>= fun t => pure (([] : List Str).zip us ++ [(pv, t)])))
    (len : ∀ ds, ((∃ d, pre [.tup ds] d) ∨ ∃ C n, preE [.tup ds] C n) → ds.length ≤ 100000) (hN : 1 ≤ N.length)
    (hb : ∀ (cdv : Value) (A : Around) (outer : List PySem.Env) (s : Shared) (H : Hp) (E : XK), Room k (A.deeper (PyProof.Rows.envOfC qual (defScope st) s.heap.objs.size f cdv)) →
      ∃ t, PSs (cxOf (L2.CX P w) P w K mg base N qual (defScope st) f cdv A outer s H E) (defBody st) t ∧ (∀ ds d, pre [.tup ds] d → ∀ D : Ends, Ok K H D d → SD K [] H (fun _ => True) t D (entry N [.tup ds])) ∧
        ∀ ds C n, preE [.tup ds] C n → ∀ D : Ends, (∀ d H', Ex H H' → H' d = some (.xd n) → E (.ref C) (some d) H') → SD K [] H (fun _ => True) t D (entry N [.tup ds])) :
    FnR P w K mg base (L2.CX P w) (k + 1) f (PureE K (fun ds d => pre [.tup ds] d) (fun ds C n => preE [.tup ds] C n)) := by
  obtain ⟨oc, od, kV, doc, pm, an, cdv, ct, osl, rfl, lk, hcd⟩ := F.ex
  have z := StX.fn_star (P := P) (w := w) (mg := mg) (base := base) (k := k) (N := N) (CX := L2.CX P w) (ps := []) (pv := pv) lk hcd S StX.cxUp hbd (sp := PureE K (fun ds d => ∃ l, ds = [.tup l] ∧ pre [.tup l] d) (fun ds C n => ∃ l, ds = [.tup l] ∧ preE [.tup l] C n)) fun A outer s H vs Q E hr hsp => by
    obtain ⟨t, ht, hs, hx⟩ := hb cdv A outer s H E hr
    refine ⟨t, ht, ?_⟩
    obtain ⟨ds, h1, h2⟩ := hsp
    rcases h2 with ⟨d, ⟨l, rfl, h2⟩, h3⟩ | ⟨C, n, ⟨l, rfl, h2⟩, h3⟩
    · exact hs l d h2 _ ⟨fun v H' e i => h3 v H' (fun a o q => e a o (by simp) q) i, fun hd σ H' e => h3 .non H' e (hd ▸ .non)⟩ _ _ (env_entry h1 hN)
    · exact hx l C n h2 _ (fun d H' e q => h3 d H' e q) _ _ (env_entry h1 hN)
  refine z.imp fun vs H Q E ⟨ds, h1, h2⟩ => ⟨[], vs, rfl, rfl, ?_, fun p np => ?_⟩
  · rw [h1.length, sizeLine_eq]
    have : ds.length ≤ 100000 := len ds (h2.imp (fun ⟨d, h, _⟩ => ⟨d, h⟩) fun ⟨C, n, h, _⟩ => ⟨C, n, h⟩)
    omega
  · have up : Ex H (upd H p (.tup vs)) := Ex.new np
    refine ⟨[.tup ds], .one (.tup (SqT.of upd_same) (h1.mono up)), ?_⟩
    rcases h2 with ⟨d, h2, h3⟩ | ⟨C, n, h2, h3⟩
    · exact .inl ⟨d, ⟨ds, rfl, h2⟩, fun v H' e i => h3 v H' (up.trans e) i⟩
    · exact .inr ⟨C, n, ⟨ds, rfl, h2⟩, fun d H' e q => h3 d H' (up.trans e) q⟩
end
end Y
set_option Elab.async false
set_option linter.all false
set_option autoImplicit false
set_option maxRecDepth 100000
set_option maxHeartbeats 2000000
/-! {e for x in xs} of ints, after the kit's rule for truth values. -/
namespace Y
open PySem PySem.Spec PyProof.Rows L2
section
variable {X : Cx}
theorem addI_ok {pins : List (Addr × Obj)} {σ : L2.St} {H : Hp} {s : Shared} {E : Value → Shared → Prop} {D : Addr} {S : Int → Bool} {n : Nat} {k : Int} {tk : Tok} {Q : Value → Shared → Prop} (I : Inv X pins σ H s) (hD : H D = some (SetO X.w D S n)) (room : n + 1 < scanBound)
    (h : ∀ s', Inv X pins σ (upd H D (SetO X.w D (fun j => S j || decide (j = k)) (if S k = true then n else n + 1))) s' → Q .none s') : wpAny (model X.prog X.w) X.A (call (.builtin "set.add") [.ref D, .int k tk]) Q E s :=
  setR_add (setO_get I hD) room fun h' sb new => h _ (I.write (e := D) (t' := s.toks + 1) (by rw [hD]; trivial) (.inl rfl) (fun b u hb hu => (sb.2 b hb).trans hu) (by obtain ⟨o, _, _, _, ho, _⟩ := new; exact ⟨o, ho⟩) (setO_new new))
/-- {elt for target in iter}, elt an int: D the new set -/
def tScI (w : World) (wi : TI) (g : TG) (tt : TT) (te : TE) (vs : List Nat) : TE := fun σ H Q => wi σ H fun J H1 => ∀ D, H1 D = none → ∃ W : Nat → Nat → Hp → Prop, (∃ m, W 0 m (upd H1 D (SetO w D (fun _ => false) 0))) ∧ ∀ i m H, W i m H →
  (J.stop i H ∧ Q (.ref D) H) ∨ (J.go i H ∧ ∃ Nx : Hp → Prop, (∀ H', Nx H' → ∃ m', m' < m ∧ W (i + 1) m' H') ∧ ∀ x H', J.yld i H x H' → g x (wipe σ vs) H' fun σ2 H2 => wipe σ2 vs = wipe σ vs ∧ tt σ2 H2 fun b H3 =>
    if b = true then te σ2 H3 fun y H4 => ∃ (c : Int) (S : Int → Bool) (n : Nat), y = .int c ∧ H4 D = some (SetO w D S n) ∧ n + 1 < scanBound ∧ Nx (upd H4 D (SetO w D (fun j => S j || decide (j = c)) (if S c = true then n else n + 1))) else Nx H3)
/-- the block of such a comprehension, at the expression -/
structure BlkI (X : Cx) (scope : Scope) (tg elt : Expr) (ifs : List Expr) (g : TG) (tt : TT) (te : TE) : Prop where
  g : ∀ (s : Shared) (H : Hp) (C : Addr) (cl : List (PySem.Str × Addr)) (fp : List Addr), PG (X.blk s H scope (compEnvC scope cl C X.env) fp) tg g
  t : ∀ (s : Shared) (H : Hp) (C : Addr) (cl : List (PySem.Str × Addr)) (fp : List Addr), PTs (X.blk s H scope (compEnvC scope cl C X.env) fp) ifs tt
  e : ∀ (s : Shared) (H : Hp) (C : Addr) (cl : List (PySem.Str × Addr)) (fp : List Addr), PE (X.blk s H scope (compEnvC scope cl C X.env) fp) elt te
theorem pe_scI {elt tg iter : Expr} {ifs : List Expr} {scope : Scope} {own : List (PySem.Str × Nat)} {pos : Pos} {wi : TI} {g : TG} {tt : TT} {te : TE} (hc : X.calm = true) (hN : X.N.Nodup) (hi : PI X tg iter wi) (ok : BlkOk X.N X.env.scope scope own) (bl : BlkI X scope tg elt ifs g tt te)
    (hs : ∀ x, foldedSetIterable iter X.env x = pure x := by intro _; rfl) : PE X (.SetComp elt [⟨tg, iter, ifs, 0⟩] scope pos) (tScI X.w wi g tt te (own.map (·.2))) := by
  refine ⟨fun pins s σ H Q I h => ?_⟩
  have hfree : ∀ y ∈ scope.names, y.2 = .free → ∃ c, X.env.cells.lookup y.1 = some c := fun y hy e => (ok.free y hy e).elim (fun k => I.ok.has _ (.inl k)) fun k => I.ok.has _ (.inr k)
  rw [PpSet.eval_SetComp]
  refine wpAny_comprehension_free (use := none) rfl hs (closure_ok hfree) ok.kind (fun y hy e => by rw [ok.uniq y hy, e]) (thn (hi.run pins s σ H _ I h) fun xv s1 hx => thn hx fun itv s2 ⟨it, fp, tn, J, H2, ei, I2, T, st2, f2, q⟩ => ?_)
  subst ei
  refine PpSet.newSet_ok (newEnv_comp ?_)
  obtain ⟨D, hD⟩ : ∃ D, s2.heap.objs.size = D := ⟨_, rfl⟩
  rw [hD]
  obtain ⟨W, ⟨m0, w0⟩, turn⟩ := q D (I2.hok.fresh (Nat.le_of_eq hD))
  obtain ⟨s3, hs3⟩ : ∃ s3 : Shared, ({ s2 with heap := s2.heap.push { cls := .type "set", dict := none, data := .set #[] 0 (.fresh 0 0 (!X.w.params.followText "set-order")) } } : Shared) = s3 := ⟨_, rfl⟩
  rw [hs3]
  have h3 : s3.heap = s2.heap.push { cls := .type "set", dict := none, data := .set #[] 0 (.fresh 0 0 (!X.w.params.followText "set-order")) } := hs3 ▸ rfl
  have I3 : Inv X pins σ (upd H2 D (SetO X.w D (fun _ => false) 0)) s3 := hs3 ▸ I2.laid (t' := s2.toks) (fun b o e => Heap.get?_push_of_some _ e) (Nat.le_of_eq hD) (hD ▸ setO_new (setR_fresh X.w))
  have sz : ∀ b ∈ fp, b < s2.heap.objs.size := fun b hb => let ⟨o, e, _⟩ := T.obj _ _ st2 b hb; Heap.lt_size e
  obtain ⟨H3, hH3⟩ : ∃ H3, upd H2 D (SetO X.w D (fun _ => false) 0) = H3 := ⟨_, rfl⟩
  rw [hH3] at I3 w0
  have f3 : ∀ b ∈ fp, FpOk X pins H3 b ∧ b < s3.heap.objs.size := fun b hb => ⟨⟨by rw [← hH3, upd_ne (hD ▸ Nat.ne_of_lt (sz b hb))]; exact (f2 b hb).1, (f2 b hb).2⟩, by rw [h3, Heap.size_push]; exact Nat.lt_succ_of_lt (sz b hb)⟩
  have st3 : tn 0 s3.heap := T.keep _ _ _ st2 fun b _ o e => by rw [h3]; exact Heap.get?_push_of_some _ e
  obtain ⟨cl, hcl⟩ : ∃ cl, cellsFrom (s3.heap.objs.size + 1) scope.names (cloFrom X.env.cells scope.names []) = cl := ⟨_, rfl⟩
  have I4 := block_start I3 ok hN f3
  rw [hcl] at I4
  have pg := bl.g s3 H3 s3.heap.objs.size cl fp
  have pt := bl.t s3 H3 s3.heap.objs.size cl fp
  have pe := bl.e s3 H3 s3.heap.objs.size cl fp
  show codeAny _ _ (.compStart (.SetComp elt [⟨tg, iter, ifs, 0⟩] scope pos) 0 (.ref it) (.ref D) (compEnvC scope (cellsFrom (s3.heap.objs.size + 1) scope.names (cloFrom X.env.cells scope.names [])) s3.heap.objs.size X.env)) (compPost (model X.prog X.w) X.A X.xe none (L2.EP X pins σ Q) (.ref D) s3.heap.objs.size) { s3 with heap := pushCells (s3.heap.push { cls := .type "dict", data := .dict #[] }) scope.names }
  rw [hcl]
  obtain ⟨ce, hce⟩ : ∃ ce, compEnvC scope cl s3.heap.objs.size X.env = ce := ⟨_, rfl⟩
  rw [hce] at I4 pg pt pe ⊢
  have cL : ce.locals = s3.heap.objs.size := hce ▸ rfl
  obtain ⟨s4, hs4⟩ : ∃ s4 : Shared, ({ s3 with heap := pushCells (s3.heap.push { cls := .type "dict", data := .dict #[] }) scope.names } : Shared) = s4 := ⟨_, rfl⟩
  rw [hs4] at I4 ⊢
  have st4 : tn 0 s4.heap := T.keep _ _ _ st3 fun b _ o e => hs4 ▸ pushCells_keeps _ _ _ _ (Heap.get?_push_of_some _ e)
  have stat : ∀ {σ' : L2.St} {H' : Hp} {s' : Shared}, Inv (X.blk s3 H3 scope ce fp) [] σ' H' s' → (∀ b ∈ fp, H' b = none) → ∀ b ∈ fp, FpOk (X.blk s3 H3 scope ce fp) [] H' b := fun {σ' H' s'} I' hn b hb =>
    ⟨hn b hb, (I'.ok.exf b hb).1, I'.ok.exfs b hb, .inl hb, (I'.ok.exf b hb).2, fun p hp => absurd (show p ∈ ([] : List (Addr × Obj)) ++ [] from hp) (by simp)⟩
  have loop : codeAny (model X.prog X.w) X.A (.compLoop (.SetComp elt [⟨tg, iter, ifs, 0⟩] scope pos) 0 (.ref it) (.ref D) ce) (compPost (model X.prog X.w) X.A X.xe none (L2.EP X pins σ Q) (.ref D) s3.heap.objs.size) s4 := by
    refine PpSet.compLoopS_any (fun n s' => ∃ i H', Inv (X.blk s3 H3 scope ce fp) [] (wipe σ (own.map (·.2))) H' s' ∧ tn i s'.heap ∧ (∀ b ∈ fp, H' b = none) ∧ W i n H') (fun n s5 ⟨i, H5, I5, st5, n5, w5⟩ => ?_) m0 ⟨0, H3, I4, st4, fun b hb => (f3 b hb).1.1, w0⟩
    rcases turn i n H5 w5 with ⟨stop, qq⟩ | ⟨go, Nx, hNx, step⟩
    · refine thnF (T.done (X.blk s3 H3 scope ce fp) rfl rfl rfl hc i [] s5 _ H5 (fun _ _ => False) I5 (stat I5 n5) st5 stop) fun r s6 ⟨hr, I6⟩ => ?_
      subst hr
      have I7 : Inv X pins σ H5 s6 := I3.call' (ch := fp) I6.os I6.base I6.hok I6.bare fun b hb => let f := (f3 b hb).1.2; ⟨f.2.2.1, f.1, f.2.2.2.1, f.2.2.2.2⟩
      have nC : H5 s3.heap.objs.size = none := cL ▸ (show H5 ce.locals = none from I6.free)
      obtain ⟨m, hn, _⟩ := I6.loc
      have hn : s6.heap.Ns s3.heap.objs.size m := cL ▸ (show s6.heap.Ns ce.locals m from hn)
      obtain ⟨f0, f1, f2', f3', f4, f5⟩ := I3.fpOk (Nat.le_refl _) nC
      exact ⟨m, hn, fun h'' sb => ⟨.ref D, H5, I7.turned (t' := s6.toks) (fun b o hb e => (sb.2 b hb).trans e) f0 f1 f3' f4 f5, rfl, qq⟩⟩
    · refine thnF (T.item (X.blk s3 H3 scope ce fp) rfl rfl rfl hc i [] s5 _ H5 (fun _ _ => False) I5 (stat I5 n5) st5 go) fun r s6 ⟨u, hr, h6⟩ => ?_
      subst hr
      refine thnF h6 fun _ s7 ⟨x, H7, I7, r7, y7, st7, n7⟩ => thnF (pg.run _ s7 _ H7 x u _ (I7.pinned (stat I7 n7) (T.obj _ _ st7)) r7 (step x H7 y7)) fun _ s8 ⟨σ8, H8, I8, hw8, q8⟩ => thnF (pt.run _ s8 σ8 H8 _ I8 q8) fun b s9 ⟨H9, I9, q9⟩ => ?_
      have fin : ∀ {s' : Shared} {H' : Hp}, Inv (X.blk s3 H3 scope ce fp) ([] ++ pinsAt fp s7.heap) σ8 H' s' → Nx H' → ∃ m, m < n ∧ ∃ i H', Inv (X.blk s3 H3 scope ce fp) [] (wipe σ (own.map (·.2))) H' s' ∧ tn i s'.heap ∧ (∀ b ∈ fp, H' b = none) ∧ W i m H' := fun {s' H'} I' nx => by
        obtain ⟨m', hm, w'⟩ := hNx H' nx
        have pin' : ∀ b ∈ fp, ∀ o, s7.heap.get? b = some o → s'.heap.get? b = some o ∧ H' b = none := fun b hb o e => let z := I'.pin (b, o) (List.mem_append_right _ (List.mem_append_right _ (mem_pinsAt hb e))); ⟨z.1, z.2.1⟩
        exact ⟨m', hm, i + 1, H', (I'.unpinned (pins := [])).weak (by rw [← hw8, wipe_length]) (fun j v e => (wipe_some (hw8 ▸ e)).1), T.keep _ _ _ st7 fun b hb o e => (pin' b hb o e).1, fun b hb => let ⟨o, e, _⟩ := T.obj _ _ st7 b hb; (pin' b hb o e).2, w'⟩
      cases b with
      | false =>
        rw [if_neg Bool.false_ne_true] at q9
        exact fin I9 q9
      | true =>
        rw [if_pos rfl] at q9
        refine thnF (pe.run _ s9 σ8 H9 _ I9 q9) fun z s10 ⟨yv, H10, I10, r10, cb, S0, n0, ey, hD10, hz10, nx⟩ => ?_
        subst ey
        obtain ⟨tk, rfl⟩ := (show ∃ t, z = Value.int cb t from r10)
        exact addI_ok (X := X.blk s3 H3 scope ce fp) I10 hD10 hz10 fun s11 I11 => fin I11 nx
  exact PpSet.codeAny_compStart_set loop (T.self X.A 0 _ _ _ st4 loop)
end
end Y
set_option autoImplicit false
set_option linter.all false
/-! Least lots in general; names; families by the sets that hold a lot. -/
namespace KM
/-! ### each once -/
def dedS (r : List Nat) (x : Nat) : List Nat := if x ∈ r then r else r ++ [x]
def ded (l : List Nat) : List Nat := l.foldl dedS []
theorem ded_aux : ∀ (l r : List Nat), r.Nodup → (l.foldl dedS r).Nodup ∧ ∀ x, x ∈ l.foldl dedS r ↔ x ∈ r ∨ x ∈ l
  | [], r, h => ⟨h, fun x => by simp⟩
  | a :: l, r, h => by
    rw [List.foldl_cons]
    by_cases ha : a ∈ r
    · have e : dedS r a = r := by unfold dedS; rw [if_pos ha]
      rw [e]
      obtain ⟨h1, h2⟩ := ded_aux l r h
      refine ⟨h1, fun x => ?_⟩
      rw [h2 x, List.mem_cons]
      constructor
      · rintro (z | z)
        · exact .inl z
        · exact .inr (.inr z)
      · rintro (z | z | z)
        · exact .inl z
        · exact .inl (z ▸ ha)
        · exact .inr z
    · have e : dedS r a = r ++ [a] := by unfold dedS; rw [if_neg ha]
      rw [e]
      obtain ⟨h1, h2⟩ := ded_aux l (r ++ [a]) (List.nodup_append.mpr ⟨h, by simp, fun x hx y hy => by simp at hy; rintro rfl; exact ha (hy ▸ hx)⟩)
      refine ⟨h1, fun x => ?_⟩
      rw [h2 x]
      simp only [List.mem_append, List.mem_cons, List.not_mem_nil, or_false, or_assoc]
theorem ded_nodup (l : List Nat) : (ded l).Nodup := (ded_aux l [] List.nodup_nil).1
theorem ded_mem {l : List Nat} {x : Nat} : x ∈ ded l ↔ x ∈ l := by
  have := (ded_aux l [] List.nodup_nil).2 x
  simpa [ded] using this
theorem ded_len (l : List Nat) : (ded l).length ≤ l.length := by
  have : ∀ (l r : List Nat), (l.foldl dedS r).length ≤ r.length + l.length := by
    intro l
    induction l with
    | nil => intro r; simp
    | cons a l ih =>
      intro r
      rw [List.foldl_cons]
      have h1 := ih (dedS r a)
      have h2 : (dedS r a).length ≤ r.length + 1 := by unfold dedS; split <;> simp
      simp only [List.length_cons]
      omega
  simpa [ded] using this l []
def img (l : List Nat) : T := sortN (ded l)
theorem mem_img {l : List Nat} {x : Nat} : x ∈ img l ↔ x ∈ l := by unfold img; rw [sortN_mem, ded_mem]
theorem img_asc (l : List Nat) : Asc (img l) := sortN_nd (ded_nodup l)
theorem img_len (l : List Nat) : (img l).length ≤ l.length := by
  unfold img
  rw [(sortN_perm _).length_eq]
  exact ded_len l
theorem img_nd {l : List Nat} (h : l.Nodup) : img l = sortN l := asc_ext (img_asc l) (sortN_nd h) fun x => by rw [mem_img, sortN_mem]
/-! ### least lots -/
theorem leastM_aux : ∀ (r pre kept : List Nat), r.Pairwise (· ≤ ·) → (∀ a ∈ pre, ∀ b ∈ r, a ≤ b) → kept.Nodup → (∀ x ∈ kept, x ∈ pre) → (∀ x ∈ pre, ∃ o ∈ kept, Sb o x) → (∀ a ∈ kept, ∀ b ∈ kept, Sb a b → a = b) →
    (r.foldl leastStep kept).Nodup ∧ (∀ x ∈ r.foldl leastStep kept, x ∈ pre ∨ x ∈ r) ∧ (∀ x, x ∈ pre ∨ x ∈ r → ∃ o ∈ r.foldl leastStep kept, Sb o x) ∧ ∀ a ∈ r.foldl leastStep kept, ∀ b ∈ r.foldl leastStep kept, Sb a b → a = b
  | [], pre, kept, _, _, h1, h2, h3, h4 => ⟨h1, fun x hx => .inl (h2 x hx), fun x hx => h3 x (by simpa using hx), h4⟩
  | m :: r, pre, kept, hs, hle, h1, h2, h3, h4 => by
    rw [List.foldl_cons]
    have hs' := List.pairwise_cons.mp hs
    have hle' : ∀ a ∈ pre ++ [m], ∀ b ∈ r, a ≤ b := fun a ha b hb => by
      rcases List.mem_append.mp ha with ha | ha
      · exact hle a ha b (List.mem_cons_of_mem _ hb)
      · simp at ha; rw [ha]; exact hs'.1 b hb
    have fin : ∀ {k : List Nat}, ((r.foldl leastStep k).Nodup ∧ (∀ x ∈ r.foldl leastStep k, x ∈ pre ++ [m] ∨ x ∈ r) ∧ (∀ x, x ∈ pre ++ [m] ∨ x ∈ r → ∃ o ∈ r.foldl leastStep k, Sb o x) ∧ ∀ a ∈ r.foldl leastStep k, ∀ b ∈ r.foldl leastStep k, Sb a b → a = b) →
        (r.foldl leastStep k).Nodup ∧ (∀ x ∈ r.foldl leastStep k, x ∈ pre ∨ x ∈ m :: r) ∧ (∀ x, x ∈ pre ∨ x ∈ m :: r → ∃ o ∈ r.foldl leastStep k, Sb o x) ∧ ∀ a ∈ r.foldl leastStep k, ∀ b ∈ r.foldl leastStep k, Sb a b → a = b := fun {k} ⟨a, b, c, d⟩ =>
      ⟨a, fun x hx => by have := b x hx; simp only [List.mem_append, List.mem_cons, List.not_mem_nil, or_false] at this ⊢; rcases this with (z | z) | z <;> simp [z], fun x hx => c x (by simp only [List.mem_append, List.mem_cons, List.not_mem_nil, or_false] at hx ⊢; rcases hx with z | z | z <;> simp [z]), d⟩
    by_cases hk : ∃ o ∈ kept, Sb o m
    · have e : leastStep kept m = kept := by
        unfold leastStep
        rw [if_neg]
        intro hall
        obtain ⟨o, ho, hom⟩ := hk
        have := List.all_eq_true.mp hall o ho
        rw [not_sb] at this
        exact this hom
      rw [e]
      refine fin (leastM_aux r (pre ++ [m]) kept hs'.2 hle' h1 (fun x hx => List.mem_append_left _ (h2 x hx)) (fun x hx => ?_) h4)
      rcases List.mem_append.mp hx with hx | hx
      · exact h3 x hx
      · simp at hx; rw [hx]; exact hk
    · have hk' : ∀ o ∈ kept, ¬ Sb o m := fun o ho z => hk ⟨o, ho, z⟩
      have e : leastStep kept m = kept ++ [m] := by
        unfold leastStep
        rw [if_pos]
        exact List.all_eq_true.mpr fun o ho => not_sb.mpr (hk' o ho)
      rw [e]
      refine fin (leastM_aux r (pre ++ [m]) (kept ++ [m]) hs'.2 hle' ?_ (fun x hx => ?_) (fun x hx => ?_) (fun a ha b hb s => ?_))
      · exact List.nodup_append.mpr ⟨h1, by simp, fun x hx y hy => by simp at hy; rintro rfl; exact hk' x hx (hy ▸ Sb.refl _)⟩
      · rcases List.mem_append.mp hx with hx | hx
        · exact List.mem_append_left _ (h2 x hx)
        · exact List.mem_append_right _ hx
      · rcases List.mem_append.mp hx with hx | hx
        · obtain ⟨o, ho, s⟩ := h3 x hx
          exact ⟨o, List.mem_append_left _ ho, s⟩
        · exact ⟨x, List.mem_append_right _ hx, Sb.refl x⟩
      · rcases List.mem_append.mp ha with a1 | a1 <;> rcases List.mem_append.mp hb with b1 | b1
        · exact h4 a a1 b b1 s
        · have e : b = m := by simpa using b1
          exact absurd (e ▸ s) (hk' a a1)
        · have e : a = m := by simpa using a1
          have : b ≤ m := hle b (h2 b b1) m (by simp)
          exact Nat.le_antisymm s.le (e ▸ this)
        · have e : b = m := by simpa using b1
          have e' : a = m := by simpa using a1
          rw [e, e']
theorem leastM_mem {ms : List Nat} {x : Nat} : x ∈ leastMasks ms ↔ x ∈ ms ∧ ∀ o ∈ ms, Sb o x → o = x := by
  obtain ⟨_, h2, h3, h4⟩ := leastM_aux (sortN ms) [] [] (sortN_le ms) (by simp) List.nodup_nil (by simp) (by simp) (by simp)
  have e : leastMasks ms = (sortN ms).foldl leastStep [] := rfl
  rw [← e] at h2 h3 h4
  constructor
  · intro hx
    refine ⟨by simpa [sortN_mem] using h2 x hx, fun o ho s => ?_⟩
    obtain ⟨o', ho', s'⟩ := h3 o (.inr (sortN_mem.mpr ho))
    have := h4 o' ho' x hx (s'.trans s)
    subst this
    exact Sb.antisymm s s'
  · rintro ⟨hx, hm⟩
    obtain ⟨o, ho, s⟩ := h3 x (.inr (sortN_mem.mpr hx))
    have : o ∈ ms := by simpa [sortN_mem] using h2 o ho
    rw [← hm o this s]
    exact ho
theorem leastM_nodup (ms : List Nat) : (leastMasks ms).Nodup := (leastM_aux (sortN ms) [] [] (sortN_le ms) (by simp) List.nodup_nil (by simp) (by simp) (by simp)).1
theorem sb_mask {l m : T} (a : Asc l) (b : Asc m) : Sb (maskOf l) (maskOf m) ↔ ∀ x ∈ l, x ∈ m := by
  constructor
  · intro s x hx
    exact (mask_bit_iff b).mp (s x ((mask_bit_iff a).mpr hx))
  · intro s i hi
    exact (mask_bit_iff b).mpr (s i ((mask_bit_iff a).mp hi))
theorem least_mem {L : List T} (ha : ∀ l ∈ L, Asc l) {s : T} : s ∈ leastLots L ↔ s ∈ L ∧ ∀ o ∈ L, (∀ y ∈ o, y ∈ s) → o = s := by
  unfold leastLots lotsOfMasks
  rw [srt_mem, List.mem_map]
  constructor
  · rintro ⟨m, hm, rfl⟩
    obtain ⟨h1, h2⟩ := leastM_mem.mp hm
    obtain ⟨l, hl, rfl⟩ := List.mem_map.mp h1
    rw [things_mask (ha l hl)]
    exact ⟨hl, fun o ho s => mask_inj (ha o ho) (ha l hl) (h2 _ (List.mem_map.mpr ⟨o, ho, rfl⟩) ((sb_mask (ha o ho) (ha l hl)).mpr s))⟩
  · rintro ⟨h1, h2⟩
    refine ⟨maskOf s, leastM_mem.mpr ⟨List.mem_map.mpr ⟨s, h1, rfl⟩, fun o ho sb => ?_⟩, things_mask (ha s h1)⟩
    obtain ⟨l, hl, rfl⟩ := List.mem_map.mp ho
    rw [h2 l hl ((sb_mask (ha l hl) (ha s h1)).mp sb)]
theorem least_lt (L : List T) : (leastLots L).Pairwise (· < ·) := by
  unfold leastLots lotsOfMasks
  exact srt_lt (List.pairwise_map.mpr ((leastM_nodup _).imp fun h e => h (things_inj e)))
theorem least_eq {L : List T} (ha : ∀ l ∈ L, Asc l) : leastLots L = leastL L := ltT_ext (least_lt L) (leastL_lt L) fun x => by
  rw [least_mem ha, leastL_mem]
  constructor
  · rintro ⟨h1, h2⟩
    exact ⟨h1, fun o ho hne s => hne (h2 o ho s)⟩
  · rintro ⟨h1, h2⟩
    exact ⟨h1, fun o ho s => Classical.byContradiction fun z => h2 o ho z s⟩
/-! ### by the sets that hold a lot -/
theorem gf_ext {n : Nat} {L M : List T} (g : GF n L) (h : GF n M) (e : ∀ s, Asc s → (∀ x ∈ s, x < n) → holds L s = holds M s) : L = M := by
  have one : ∀ {L M : List T}, GF n L → GF n M → (∀ s, Asc s → (∀ x ∈ s, x < n) → holds L s = holds M s) → ∀ l ∈ L, l ∈ M := fun {L M} g h e l hl => by
    have h1 : holds M l = true := by
      rw [← e l (g.g.asc l hl) (g.lt l hl)]
      exact holds_iff.mpr ⟨l, hl, fun _ h => h⟩
    obtain ⟨m, hm, s⟩ := holds_iff.mp h1
    have h2 : holds L m = true := by
      rw [e m (h.g.asc m hm) (h.lt m hm)]
      exact holds_iff.mpr ⟨m, hm, fun _ h => h⟩
    obtain ⟨l', hl', s'⟩ := holds_iff.mp h2
    have := g.g.anti l' hl' l hl fun x hx => s x (s' x hx)
    subst this
    rw [asc_ext (g.g.asc l' hl') (h.g.asc m hm) fun x => ⟨s' x, s x⟩]
    exact hm
  exact ltT_ext g.g.lt h.g.lt fun x => ⟨one g h e x, one h g (fun s a b => (e s a b).symm) x⟩
theorem holds_least {fs : List T} (ha : ∀ l ∈ fs, Asc l) (s : T) : holds (leastL fs) s = holds fs s := by
  rw [Bool.eq_iff_iff, holds_iff, holds_iff]
  constructor
  · rintro ⟨l, hl, h⟩
    exact ⟨l, (leastL_mem.mp hl).1, h⟩
  · rintro ⟨l, hl, h⟩
    obtain ⟨m, hm, h2⟩ := least_ex ha l.length l hl rfl
    exact ⟨m, hm, fun x hx => h x (h2 x hx)⟩
theorem leastLots_gf {n : Nat} {fs : List T} (n1 : 1 ≤ n) (ne : fs ≠ []) (ha : ∀ l ∈ fs, Asc l) (hn : ∀ l ∈ fs, l ≠ []) (hl : ∀ l ∈ fs, ∀ x ∈ l, x < n) : GF n (leastLots fs) := by
  rw [least_eq ha]
  exact least_gf n1 ne ha hn hl
/-! ### names -/
def nm (names : List Nat) (l : T) : T := img (l.map fun t => names.getD t 0)
def mg (names : List Nat) (L : List T) : List T := leastL (L.map (nm names))
def under (n : Nat) (names : List Nat) (s : T) : T := (List.range n).filter fun t => decide (names.getD t 0 ∈ s)
theorem mem_nm {names : List Nat} {l : T} {x : Nat} : x ∈ nm names l ↔ ∃ t ∈ l, names.getD t 0 = x := by
  unfold nm
  rw [mem_img, List.mem_map]
theorem nm_asc (names : List Nat) (l : T) : Asc (nm names l) := img_asc _
theorem nm_ne {names : List Nat} {l : T} (h : l ≠ []) : nm names l ≠ [] := by
  obtain ⟨t, r, rfl⟩ := List.exists_cons_of_ne_nil h
  exact List.ne_nil_of_mem (mem_nm.mpr ⟨t, by simp, rfl⟩)
/-- names of n things, below w -/
structure Nms (n w : Nat) (names : List Nat) : Prop where
  len : names.length = n
  lt : ∀ x ∈ names, x < w
theorem Nms.at {n w : Nat} {names : List Nat} (h : Nms n w names) {t : Nat} (ht : t < n) : names.getD t 0 < w := by
  have : t < names.length := by rw [h.len]; exact ht
  rw [List.getD_eq_getElem?_getD, List.getElem?_eq_getElem this]
  exact h.lt _ (List.getElem_mem this)
theorem nm_lt {n w : Nat} {names : List Nat} (h : Nms n w names) {l : T} (hl : ∀ x ∈ l, x < n) : ∀ x ∈ nm names l, x < w := fun x hx => by
  obtain ⟨t, ht, rfl⟩ := mem_nm.mp hx
  exact h.at (hl t ht)
theorem mem_under {n : Nat} {names : List Nat} {s : T} {t : Nat} : t ∈ under n names s ↔ t < n ∧ names.getD t 0 ∈ s := by
  unfold under
  rw [List.mem_filter, List.mem_range, decide_eq_true_iff]
theorem under_asc (n : Nat) (names : List Nat) (s : T) : Asc (under n names s) := (range_asc n).filter _
theorem mg_in {n w : Nat} {names : List Nat} {L : List T} (h : Nms n w names) (g : GF n L) : (∀ l ∈ L.map (nm names), Asc l) ∧ (∀ l ∈ L.map (nm names), l ≠ []) ∧ (∀ l ∈ L.map (nm names), ∀ x ∈ l, x < w) ∧ L.map (nm names) ≠ [] := by
  refine ⟨fun l hl => ?_, fun l hl => ?_, fun l hl => ?_, by simpa using g.ne⟩ <;> obtain ⟨m, hm, rfl⟩ := List.mem_map.mp hl
  · exact nm_asc _ _
  · exact nm_ne (g.lne m hm)
  · exact nm_lt h (g.lt m hm)
theorem mg_gf {n w : Nat} {names : List Nat} {L : List T} (h : Nms n w names) (g : GF n L) (w1 : 1 ≤ w) : GF w (mg names L) := by
  obtain ⟨a, b, c, d⟩ := mg_in h g
  exact least_gf w1 d a b c
theorem mg_holds {n w : Nat} {names : List Nat} {L : List T} (h : Nms n w names) (g : GF n L) (s : T) : holds (mg names L) s = holds L (under n names s) := by
  unfold mg
  rw [holds_least (mg_in h g).1, Bool.eq_iff_iff, holds_iff, holds_iff]
  constructor
  · rintro ⟨l, hl, k⟩
    obtain ⟨m, hm, rfl⟩ := List.mem_map.mp hl
    exact ⟨m, hm, fun x hx => mem_under.mpr ⟨g.lt m hm x hx, k _ (mem_nm.mpr ⟨x, hx, rfl⟩)⟩⟩
  · rintro ⟨m, hm, k⟩
    refine ⟨nm names m, List.mem_map.mpr ⟨m, hm, rfl⟩, fun x hx => ?_⟩
    obtain ⟨t, ht, rfl⟩ := mem_nm.mp hx
    exact (mem_under.mp (k t ht)).2
theorem rest_rest {n : Nat} {s : T} (hs : ∀ x ∈ s, x < n) : ∀ x, x ∈ rest n (rest n s) ↔ x ∈ s := fun x => by
  rw [mem_rest, mem_rest]
  constructor
  · rintro ⟨h1, h2⟩
    exact Classical.byContradiction fun z => h2 ⟨h1, z⟩
  · intro h
    exact ⟨hs x h, fun z => z.2 h⟩
theorem blk_holds {n : Nat} {L : List T} (g : GF n L) {s : T} (hs : ∀ x ∈ s, x < n) : holds (blockerLots L) s = !holds L (rest n s) := by
  rw [← set_or_rest g (s := rest n s) fun x hx => (mem_rest.mp hx).1]
  exact holds_congr fun x => (rest_rest hs x).symm
theorem mg_blk {n w : Nat} {names : List Nat} {L : List T} (h : Nms n w names) (g : GF n L) (w1 : 1 ≤ w) : mg names (blockerLots L) = blockerLots (mg names L) := by
  refine gf_ext (mg_gf h (blocker_gf g) w1) (blocker_gf (mg_gf h g w1)) fun s _ hs => ?_
  rw [mg_holds h (blocker_gf g), blk_holds (mg_gf h g w1) hs, mg_holds h g, blk_holds g fun x hx => (mem_under.mp hx).1]
  congr 1
  refine holds_congr fun x => ?_
  rw [mem_rest, mem_under, mem_under, mem_rest]
  constructor
  · rintro ⟨h1, h2⟩
    exact ⟨h1, h.at h1, fun z => h2 ⟨h1, z⟩⟩
  · rintro ⟨h1, _, h2⟩
    exact ⟨h1, fun z => h2 z.2⟩
/-- there and back -/
theorem mg_back {n : Nat} {ord back : List Nat} {L : List T} (h : Nms n n ord) (k : Nms n n back) (g : GF n L) (e : ∀ t, t < n → back.getD (ord.getD t 0) 0 = t) : mg back (mg ord L) = L := by
  have g1 := mg_gf h g g.n1
  refine gf_ext (mg_gf k g1 g.n1) g fun s _ hs => ?_
  rw [mg_holds k g1, mg_holds h g]
  refine holds_congr fun x => ?_
  rw [mem_under, mem_under]
  constructor
  · rintro ⟨h1, _, h2⟩
    rwa [e x h1] at h2
  · intro hx
    exact ⟨hs x hx, h.at (hs x hx), by rw [e x (hs x hx)]; exact hx⟩
end KM
set_option Elab.async false
set_option linter.all false
set_option autoImplicit false
set_option maxRecDepth 100000
set_option maxHeartbeats 1000000
/-! Comprehensions with two fors; over lists that stand apart; sorted({..}); isinstance of something else. -/
namespace Y
open PySem L2
section
variable {K : PySem.W.Frag} {B : List Addr} {H0 : Hp} {Z : Hp → Prop} {E : List Slot} {ta tb tc tc1 te : TE} {t u : TT} {ea ea1 : TA} {x y z d : D} {l m : List D} {b c : Bool} {De : Ends}
theorem fl_step {α : Type} {l : List α} {i : Nat} {a : α} (f : α → List D) (h : l[i]? = some a) : (l.take (i + 1)).flatMap f = (l.take i).flatMap f ++ f a := by
  rw [take_step h, List.flatMap_append]
  simp
theorem fl_le {α : Type} {l : List α} {i : Nat} (f : α → List D) : ((l.take i).flatMap f).length ≤ (l.flatMap f).length := by
  conv => rhs; rw [← List.take_append_drop i l]
  rw [List.flatMap_append, List.length_append]
  omega
theorem wipe2 (σ : L2.St) {j j1 : Nat} (hj : j ≠ j1) (x : Option V) : wipe ((wipe σ [j, j1]).set j x) [j, j1] = wipe σ [j, j1] := by
  show ((((σ.set j1 none).set j none).set j x).set j1 none).set j none = (σ.set j1 none).set j none
  rw [List.set_set, List.set_comm _ _ hj, List.set_set, List.set_set]
/-- one more item of a comprehension -/
theorem lcw_add {Hb : Hp} {p : Addr} {l : List D} {H' H4 : Hp} {y : V} {d : D} (w : Lcw K Hb p l H') (e4 : Ex H' H4) (hy : Is K H4 y d) (im : d.im = true) : ∃ acc, H4 p = some (.lst acc) ∧ acc.length = l.length ∧ Lcw K Hb p (l ++ [d]) (upd H4 p (.lst (acc ++ [y]))) := by
  obtain ⟨acc, w1, w2⟩ := w.at_
  refine ⟨acc, e4 _ _ w1, w2.length, w.fr, fun a o q => ?_, acc ++ [y], upd_same, ?_⟩
  · rw [upd_ne (ne_of_none q w.fr)]
    exact e4 _ _ (w.ex _ _ q)
  · have e5 : Ex (hid [p] H4) (hid [p] (upd H4 p (.lst (acc ++ [y])))) := fun a o q => by
      obtain ⟨q1, q2⟩ := hid_some q
      rw [hid_at q1, upd_ne (by simpa using q1)]
      exact q2
    refine ((w2.mono (hid_ex e4)).mono e5).append (.one ((hy.clean (fun a ha => ?_) im).mono e5))
    have : a = p := by simpa using ha
    exact ⟨acc, by rw [this]; exact e4 _ _ w1⟩
/-- what an inner for must give -/
def InFor (J : It) (j1 : Nat) (te : TE) (σ2 : L2.St) (p : Addr) (H3 : Hp) (Nx : Hp → Prop) : Prop := ∃ W1 : Nat → Nat → Hp → Prop, (∃ m, W1 0 m H3) ∧ ∀ j k H, W1 j k H →
  (J.stop j H ∧ Nx H) ∨ (J.go j H ∧ ∃ Nx1 : Hp → Prop, (∀ H', Nx1 H' → ∃ k', k' < k ∧ W1 (j + 1) k' H') ∧ ∀ x H', J.yld j H x H' → gName j1 x (wipe σ2 [j1]) H' fun σ3 H5 => wipe σ3 [j1] = wipe σ2 [j1] ∧ tYes σ3 H5 fun b H6 =>
    if b = true then te σ3 H6 fun y H7 => ∃ acc, H7 p = some (.lst acc) ∧ acc.length < sizeLine ∧ Nx1 (upd H7 p (.lst (acc ++ [y]))) else Nx1 H6)
theorem in_for {β : Type} {J : It} {j1 : Nat} {σ2 : L2.St} {Hb : Hp} {p : Addr} {pre : List D} {H3 : Hp} {us : List β} (g : β → D) (w : Lcw K Hb p pre H3) (hz : (pre ++ us.map g).length < 100000) (im : ∀ b ∈ us, (g b).im = true)
    (hst : ∀ H, Ex Hb H → J.stop us.length H) (hgo : ∀ j H, j < us.length → Ex Hb H → J.go j H) (hy : ∀ (j : Nat) b H x H', us[j]? = some b → Ex Hb H → J.yld j H x H' → H' = H ∧ ∀ Q : VK, (∀ y H', Ex H H' → Is K H' y (g b) → Q y H') → te ((wipe σ2 [j1]).set j1 (some x)) H Q)
    {Nx : Hp → Prop} (hn : ∀ H4, Lcw K Hb p (pre ++ us.map g) H4 → Nx H4) : InFor J j1 te σ2 p H3 Nx := by
  refine ⟨fun j k H => k = us.length - j ∧ j ≤ us.length ∧ Lcw K Hb p (pre ++ (us.take j).map g) H, ⟨_, rfl, Nat.zero_le _, by simpa using w⟩, ?_⟩
  rintro j k H ⟨rfl, hj, w1⟩
  by_cases hlt : j < us.length
  · refine .inr ⟨hgo j H hlt w1.ex, fun H' => Lcw K Hb p (pre ++ (us.take (j + 1)).map g) H', fun H' w' => ⟨us.length - (j + 1), by omega, rfl, hlt, w'⟩, fun x H' y => ?_⟩
    have e1 := List.getElem?_eq_getElem hlt
    obtain ⟨rfl, he⟩ := hy j us[j] H x H' e1 w1.ex y
    refine ⟨wipe1 σ2 j1 _, ?_⟩
    show te _ _ _
    refine he _ fun y H7 e7 h7 => ?_
    obtain ⟨acc, a1, a2, a3⟩ := lcw_add w1 e7 h7 (im _ (List.getElem_mem hlt))
    refine ⟨acc, a1, ?_, ?_⟩
    · rw [a2, sizeLine_eq]
      have : ((us.take j).map g).length ≤ (us.map g).length := by rw [List.length_map, List.length_map, List.length_take]; omega
      rw [List.length_append] at hz ⊢
      omega
    · rw [take_step e1, List.map_append, ← List.append_assoc]
      exact a3
  · have : j = us.length := by omega
    subst this
    rw [List.take_length] at w1
    exact .inl ⟨hst H w1.ex, hn H w1⟩
/-- a reading that gives what was there -/
def ERd (K : PySem.W.Frag) (B : List Addr) (H0 : Hp) (Z : Hp → Prop) (te : TE) (E : List Slot) (d : D) : Prop := ∀ σ Hb H, Env K B H0 Z E σ Hb → Ex Hb H → ∀ Q : VK, (∀ v, Is K Hb v d → Q v H) → te σ H Q
theorem erd_var {i : Nat} (h : E[i]? = some (.val d)) : ERd K B H0 Z (tVar i) E d := fun σ Hb H e x Q q => by
  obtain ⟨v, h1, h2⟩ := e.val i d h
  exact ⟨v, h1, q v (h2.mono (hid_le _ _))⟩
theorem erd_ix {k : Int} (ha : ERd K B H0 Z ta E (.lst l)) (hb : ERd K B H0 Z tb E (.int k)) (hk : atI l k = some d) : ERd K B H0 Z (tOp (rIxL K) ta tb) E d := fun σ Hb H e x Q q =>
  ha σ Hb H e x _ fun v h1 => hb σ Hb H e x _ fun u h2 => by
    cases h2
    cases h1 with
    | lst hq ht =>
      rename_i a xs
      have hl := ht.length
      obtain ⟨j, hj1, hj2⟩ := Option.bind_eq_some_iff.mp hk
      obtain ⟨v, hv, hv2⟩ := ht.getD hj2
      exact ⟨a, xs, k, v, rfl, rfl, sqL_ex x hq, Option.bind_eq_some_iff.mpr ⟨j, by rw [hl]; exact hj1, hv⟩, q v hv2⟩
/-- the slots within -/
abbrev in2 (E : List Slot) (j j1 : Nat) (d : D) : List Slot := ((E.set j1 .no).set j .no).set j (.val d)
theorem lc2_out {α : Type} {j j1 : Nat} {wi1 : TI} (hj : j ≠ j1) (c : α → D) {ts : List α} (G : α → List D) (h : EP K B H0 Z tc E (.lst (ts.map c))) (imc : ∀ a ∈ ts, (c a).im = true)
    (hin : ∀ a ∈ ts, ∀ σ2 Hb, Env K B H0 Z (in2 E j j1 (c a)) σ2 Hb → ∀ p pre H3, Lcw K Hb p pre H3 → (pre ++ G a).length ≤ (ts.flatMap G).length → ∀ Nx : Hp → Prop, (∀ H4, Lcw K Hb p (pre ++ G a) H4 → Nx H4) → wi1 σ2 H3 fun J1 H4 => InFor J1 j1 te σ2 p H4 Nx) :
    EF K B H0 Z (tLc2 (iList K tc) (gName j) tYes wi1 (gName j1) tYes te [j, j1] [j1]) E (ts.flatMap G) := fun σ H e Q q =>
  h σ H e _ fun v H1 e1 h1 => by
    have e' := e.ext e1
    cases h1 with
    | lst hq ha =>
      rename_i r xs
      have hl : xs.length = ts.length := by rw [ha.length, List.length_map]
      refine ⟨r, rfl, ⟨xs, hq⟩, fun p np => ?_⟩
      refine ⟨fun i m H' => m = ts.length - i ∧ i ≤ ts.length ∧ Lcw K H1 p ((ts.take i).flatMap G) H', ⟨_, rfl, Nat.zero_le _, np, Ex.new np, [], upd_same, by simpa using IsAll.nil⟩, ?_⟩
      rintro i m H' ⟨rfl, hi, w⟩
      by_cases hlt : i < ts.length
      · have e1' := List.getElem?_eq_getElem hlt
        refine .inr ⟨⟨xs, xs[i]'(by omega), sqL_ex w.ex hq, by simp [hl, hlt]⟩, fun H' => Lcw K H1 p ((ts.take (i + 1)).flatMap G) H', fun H' w' => ⟨ts.length - (i + 1), by omega, rfl, hlt, w'⟩, ?_⟩
        rintro x H'' ⟨rfl, hx⟩
        have hx := hx xs (sqL_ex w.ex hq)
        obtain ⟨d, hd1, hd2⟩ := ha.get hx
        obtain ⟨a, ha1, rfl⟩ := map_at hd1
        have ham : a ∈ ts := List.mem_of_getElem? ha1
        refine ⟨wipe2 σ hj _, ?_⟩
        show wi1 _ _ _
        refine hin a ham ((wipe σ [j, j1]).set j (some x)) H1 (((e'.setNo j1).setNo j).set hd2 (imc a ham)) p _ _ w ?_ _ fun H4 w4 => ?_
        · rw [← fl_step G ha1]
          exact fl_le G
        · rw [fl_step G ha1]
          exact w4
      · have : i = ts.length := by omega
        subst this
        rw [List.take_length] at w
        refine .inl ⟨⟨xs, sqL_ex w.ex hq, by omega⟩, ?_⟩
        obtain ⟨acc, w1, w2⟩ := w.at_
        exact q p acc H' (e1.back np) (e1.trans w.ex) w1 (w2.mono (hid_le _ _))
/-- [e for x in xs for y in ys(x)] -/
theorem ef_lc2LL {α β : Type} {j j1 : Nat} (hj : j ≠ j1) (c : α → D) {ts : List α} (c1 : β → D) (us : α → List β) (g : α → β → D) (h : EP K B H0 Z tc E (.lst (ts.map c))) (imc : ∀ a ∈ ts, (c a).im = true) (imc1 : ∀ a ∈ ts, ∀ b ∈ us a, (c1 b).im = true) (img : ∀ a ∈ ts, ∀ b ∈ us a, (g a b).im = true)
    (hz : (ts.flatMap fun a => (us a).map (g a)).length < 100000) (h1 : ∀ a ∈ ts, ERd K B H0 Z tc1 (in2 E j j1 (c a)) (.lst ((us a).map c1))) (he : ∀ a ∈ ts, ∀ b ∈ us a, EP K B H0 Z te (((in2 E j j1 (c a)).set j1 .no).set j1 (.val (c1 b))) (g a b)) :
    EF K B H0 Z (tLc2 (iList K tc) (gName j) tYes (iList K tc1) (gName j1) tYes te [j, j1] [j1]) E (ts.flatMap fun a => (us a).map (g a)) :=
  lc2_out hj c (fun a => (us a).map (g a)) h imc fun a ha σ2 Hb e2 p pre H3 w hle Nx hn => h1 a ha σ2 Hb H3 e2 w.ex _ fun v hv => by
    cases hv with
    | lst hq hx =>
      rename_i r xs
      have hl : xs.length = (us a).length := by rw [hx.length, List.length_map]
      refine ⟨r, rfl, ⟨xs, sqL_ex w.ex hq⟩, in_for (J := Itl K r) (us := us a) (g a) w (by omega) (img a ha) (fun H ex => ⟨xs, sqL_ex ex hq, by omega⟩) (fun j H hj ex => ⟨xs, xs[j]'(by omega), sqL_ex ex hq, by simp [hl, hj]⟩) ?_ hn⟩
      rintro i b H x H' hb ex ⟨rfl, hy⟩
      have hy := hy xs (sqL_ex ex hq)
      obtain ⟨d, hd1, hd2⟩ := hx.get hy
      obtain ⟨b', hb1, rfl⟩ := map_at hd1
      rw [hb] at hb1
      obtain rfl := Option.some.inj hb1
      have hbm : b ∈ us a := List.mem_of_getElem? hb
      exact ⟨rfl, fun Q q => he a ha b hbm _ _ (((e2.setNo j1).set hd2 (imc1 a ha b hbm)).ext ex) Q q⟩
/-- [e for x in xs for i in range(lo, n)] -/
theorem ef_lc2LR {α : Type} {j j1 : Nat} (hj : j ≠ j1) (c : α → D) {ts : List α} (lo n : α → Int) (g : α → Nat → D) (h : EP K B H0 Z tc E (.lst (ts.map c))) (imc : ∀ a ∈ ts, (c a).im = true) (img : ∀ a ∈ ts, ∀ b ∈ List.range (n a - lo a).toNat, (g a b).im = true)
    (hz : (ts.flatMap fun a => (List.range (n a - lo a).toNat).map (g a)).length < 100000) (hn : ∀ a ∈ ts, -100000 ≤ lo a ∧ lo a < 100000 ∧ -100000 ≤ n a ∧ n a < 100000) (h1 : ∀ a ∈ ts, EA K B H0 Z ea1 (in2 E j j1 (c a)) [.int (lo a), .int (n a)])
    (he : ∀ a ∈ ts, ∀ b ∈ List.range (n a - lo a).toNat, EP K B H0 Z te (((in2 E j j1 (c a)).set j1 .no).set j1 (.val (.int (lo a + (b : Int))))) (g a b)) :
    EF K B H0 Z (tLc2 (iList K tc) (gName j) tYes (iRng2 ea1) (gName j1) tYes te [j, j1] [j1]) E (ts.flatMap fun a => (List.range (n a - lo a).toNat).map (g a)) :=
  lc2_out hj c (fun a => (List.range (n a - lo a).toNat).map (g a)) h imc fun a ha σ2 Hb e2 p pre H3 w hle Nx hN => h1 a ha σ2 H3 (e2.ext w.ex) _ fun vs H4 e4 hv => by
    have : vs = [.int (lo a), .int (n a)] := by
      cases hv with
      | cons a t =>
        cases a
        cases t with
        | cons a t => cases a; cases t; rfl
    subst this
    have hr := hn a ha
    have w4 : Lcw K Hb p pre H4 := by
      obtain ⟨acc, w1, w2⟩ := w.at_
      exact ⟨w.fr, w.ex.trans e4, acc, e4 _ _ w1, w2.mono (hid_ex e4)⟩
    refine ⟨lo a, n a, rfl, ⟨by omega, by omega, by omega, by omega⟩, in_for (J := Itr (lo a) (n a - lo a).toNat) (us := List.range (n a - lo a).toNat) (g a) w4 (by omega) (img a ha) (fun H _ => by rw [List.length_range]; exact Nat.le_refl _) (fun j H hj _ => by rw [List.length_range] at hj; exact hj) ?_ hN⟩
    rintro i b H x H' hb ex ⟨rfl, rfl⟩
    have hbm : b ∈ List.range (n a - lo a).toNat := List.mem_of_getElem? hb
    have hib : i < (n a - lo a).toNat := by
      have := (List.getElem?_eq_some_iff.mp hb).1
      rwa [List.length_range] at this
    have : b = i := by
      rw [List.getElem?_range hib] at hb
      exact (Option.some.inj hb).symm
    subst this
    exact ⟨rfl, fun Q q => he a ha b hbm _ _ (((e2.setNo j1).set (.int _) rfl).ext ex) Q q⟩
/-! over lists that stand apart -/
theorem ef_lcC {α : Type} {j : Nat} (c : α → Y.D) {ts : List α} (g : α → Y.D) (h : EC K B H0 Z tc E (.lst (ts.map c))) (hz : ts.length < 100000)
    (he : ∀ a ∈ ts, EP K B H0 Z te ((E.set j .no).set j (.val (c a))) (g a)) (im : ∀ a ∈ ts, (g a).im = true) :
    EF K B H0 Z (tLc (iList K tc) (gName j) tYes te [j]) E (ts.map g) := fun σ H e Q q =>
  h σ H e _ fun v H1 e1 h1 => by
    have e' := e.ext e1
    cases h1 with
    | lst hq ha =>
      rename_i r xs
      have hq := sqL_ex (hid_le _ _) hq
      have hl : xs.length = ts.length := by rw [ha.length, List.length_map]
      refine ⟨r, rfl, ⟨xs, hq⟩, fun p np => ?_⟩
      refine lc_list (xs := xs) (fun i H' => Lcw K H1 p ((ts.take i).map g) H') ⟨np, Ex.new np, [], upd_same, by simpa using IsAll.nil⟩ (fun i H' _ w => sqL_ex w.ex hq) (fun i x H' hx w => ⟨wipe1 σ j _, ?_⟩) (fun H' w => ?_)
      · obtain ⟨d, hd1, hd2⟩ := ha.get hx
        obtain ⟨a, ha1, rfl⟩ := map_at hd1
        have hdm : a ∈ ts := List.mem_of_getElem? ha1
        have hd3 : Is K (hid (ows (E.set j .no)) H1) x (c a) := hd2.mono (hid_sub (ows_sub fun p l z => by cases z))
        have eb : Env K B H0 Z ((E.set j .no).set j (.val (c a))) ((wipe σ [j]).set j (some x)) H1 := (e'.setNo j).setC hd3
        show te _ _ _
        refine he a hdm _ _ (eb.ext w.ex) _ fun y H4 e4 hy => ?_
        obtain ⟨acc, a1, a2, a3⟩ := lcw_add w e4 hy (im a hdm)
        refine ⟨acc, a1, by rw [a2, List.length_map, List.length_take, sizeLine_eq]; omega, ?_⟩
        rw [take_step ha1, List.map_append]
        exact a3
      · obtain ⟨acc, w1, w2⟩ := w.at_
        rw [hl, List.take_length] at w2
        exact q p acc H' (e1.back np) (e1.trans w.ex) w1 (w2.mono (hid_le _ _))
/-- isinstance(x, C), x of a built-in class -/
structure NotI (K : PySem.W.Frag) (C : Addr) : Prop where
  hd : PySem.W.hasDictIn K C = true
  ty : PySem.W.typeIn K (.ref C) = some (.type "type")
theorem NotI.one {C : Addr} (n : NotI K C) {ty : String} (h : ty ∈ ["NoneType", "bool", "int", "str", "tuple", "list"]) : PySem.W.kitOne K (.type ty) (.ref C) = some false := by
  obtain ⟨cd, hc, _⟩ := PySem.W.any_some n.hd
  unfold PySem.W.kitOne
  rw [if_neg (by simp)]
  unfold PySem.W.kitCls
  show (if ((PySem.W.clsIn K C).isSome && PySem.W.typeIn K (.ref C) == some (.type "type")) = true then PySem.W.subIn K (.type ty) (.ref C) else none) = _
  rw [hc, n.ty, if_pos (by simp)]
  simp only [List.mem_cons, List.not_mem_nil, or_false] at h
  rcases h with rfl | rfl | rfl | rfl | rfl | rfl <;> rfl
theorem ep_isiN {C : Addr} {ty : String} (n : NotI K C) (h : EP K B H0 Z te E d) (e : d.tyN = some ty) (hm : ty ∈ ["NoneType", "bool", "int", "str", "tuple", "list"]) : EP K B H0 Z (tCB (rIsi K) (tCons te (tCons (tC (.ref C)) tNil))) E (.bl false) := fun σ H en Q q =>
  h σ H en _ fun v H1 e1 h1 => ⟨v, .ref C, .type ty, .ref C, false, rfl, .own C, h1.tyx e, n.one hm, q _ H1 e1 (.bl false)⟩
/-- sorted({e for x in xs}), ints -/
theorem ef_sortSc {w : World} {j : Nat} {ts : List Nat} (f : Nat → Nat) (h : EP K B H0 Z tc E (.tup (ts.map iD))) (hz : ts.length < 62) (he : ∀ a ∈ ts, EP K B H0 Z te ((E.set j .no).set j (.val (iD a))) (iD (f a))) :
    EF K B H0 Z (tCB (rSortedSet w) (tCons (tScI w (iTup K tc) (gName j) tYes te [j]) tNil)) E ((KM.img (ts.map f)).map iD) := fun σ H e Q q =>
  h σ H e _ fun v H1 e1 h1 => by
    have e' := e.ext e1
    cases h1 with
    | tup hq ha =>
      rename_i r xs
      have hl : xs.length = ts.length := by rw [ha.length, List.length_map]
      refine ⟨r, rfl, ⟨xs, hq⟩, fun p np => ?_⟩
      let Sx : Nat → Int → Bool := fun i k => decide (∃ a ∈ ts.take i, ((f a : Nat) : Int) = k)
      refine ⟨fun i m H' => m = ts.length - i ∧ i ≤ ts.length ∧ H1 p = none ∧ Ex H1 H' ∧ ∃ S n, H' p = some (SetO w p S n) ∧ (∀ k, S k = Sx i k) ∧ n = (KM.ded ((ts.take i).map f)).length, ⟨_, rfl, Nat.zero_le _, np, Ex.new np, _, _, upd_same, fun k => by simp [Sx], rfl⟩, ?_⟩
      rintro i m H' ⟨rfl, hi, _, ex, S, n, hp, hS, hn⟩
      by_cases hlt : i < ts.length
      · refine .inr ⟨⟨xs, xs[i]'(by omega), sqT_ex ex hq, by simp [hl, hlt]⟩, fun H' => H1 p = none ∧ Ex H1 H' ∧ ∃ S n, H' p = some (SetO w p S n) ∧ (∀ k, S k = Sx (i + 1) k) ∧ n = (KM.ded ((ts.take (i + 1)).map f)).length, fun H' w' => ⟨ts.length - (i + 1), by omega, rfl, hlt, w'⟩, ?_⟩
        rintro x H'' ⟨rfl, hx⟩
        have hx := hx xs (sqT_ex ex hq)
        obtain ⟨d, hd1, hd2⟩ := ha.get hx
        obtain ⟨a, ha1, rfl⟩ := map_at hd1
        have ham : a ∈ ts := List.mem_of_getElem? ha1
        refine ⟨wipe1 σ j _, ?_⟩
        show te _ _ _
        have eb : Env K B H0 Z ((E.set j .no).set j (.val (iD a))) ((wipe σ [j]).set j (some x)) H1 := (e'.setNo j).set hd2 rfl
        refine he a ham _ _ (eb.ext ex) _ fun y H4 e4 hy => ?_
        cases hy
        have hmem : (S ((f a : Nat) : Int) = true) ↔ f a ∈ (ts.take i).map f := by
          rw [hS, List.mem_map]
          simp only [Sx, decide_eq_true_iff]
          constructor
          · rintro ⟨b, h1, h2⟩; exact ⟨b, h1, by omega⟩
          · rintro ⟨b, h1, h2⟩; exact ⟨b, h1, by omega⟩
        have hd : KM.ded ((ts.take (i + 1)).map f) = KM.dedS (KM.ded ((ts.take i).map f)) (f a) := by
          rw [take_step ha1, List.map_append]
          unfold KM.ded
          rw [List.foldl_append]
          rfl
        have hn' : n ≤ ts.length := by
          have := KM.ded_len ((ts.take i).map f)
          rw [List.length_map, List.length_take] at this
          omega
        refine ⟨(f a : Nat), S, n, rfl, e4 _ _ hp, by unfold PySem.scanBound; omega, np, fun b o z => ?_, _, _, upd_same, fun k => ?_, ?_⟩
        · rw [upd_ne (ne_of_none z np)]
          exact e4 _ _ (ex _ _ z)
        · simp only [hS, Sx]
          rw [take_step ha1, Bool.eq_iff_iff, Bool.or_eq_true, decide_eq_true_iff, decide_eq_true_iff, decide_eq_true_iff]
          constructor
          · rintro (⟨b, h1, h2⟩ | h)
            · exact ⟨b, List.mem_append_left _ h1, h2⟩
            · exact ⟨a, by simp, h.symm⟩
          · rintro ⟨b, h1, h2⟩
            rcases List.mem_append.mp h1 with h1 | h1
            · exact .inl ⟨b, h1, h2⟩
            · simp at h1; rw [h1] at h2; exact .inr h2.symm
        · rw [hd]
          unfold KM.dedS
          by_cases hm : f a ∈ (ts.take i).map f
          · rw [if_pos (hmem.mpr hm), if_pos (KM.ded_mem.mpr hm), hn]
          · rw [if_neg (fun z => hm (hmem.mp z)), if_neg (fun z => hm (KM.ded_mem.mp z)), hn]
            simp
      · have : i = ts.length := by omega
        subst this
        refine .inl ⟨⟨xs, sqT_ex ex hq, by omega⟩, ?_⟩
        have hn' : n ≤ ts.length := by
          have := KM.ded_len ((ts.take ts.length).map f)
          rw [List.length_map, List.length_take] at this
          omega
        refine ⟨p, S, n, rfl, hp, by omega, fun ns p' hs hm _ np' => ?_⟩
        have e0 : ns = (KM.img (ts.map f)).map fun (a : Nat) => ((a : Nat) : Int) := by
          have lt2 : ((KM.img (ts.map f)).map fun (a : Nat) => ((a : Nat) : Int)).Pairwise (· < ·) := List.pairwise_map.mpr ((KM.img_asc _).imp fun h => by omega)
          refine KM.ext_of_pairwise (r := (· < ·)) (fun a => Int.lt_irrefl a) (fun a b h k => by omega) hs lt2 fun k => ?_
          rw [hm k, hS k, List.mem_map]
          simp only [Sx, decide_eq_true_iff, List.take_length]
          constructor
          · rintro ⟨b, h1, h2⟩
            exact ⟨f b, KM.mem_img.mpr (List.mem_map.mpr ⟨b, h1, rfl⟩), h2⟩
          · rintro ⟨z, h1, h2⟩
            obtain ⟨b, h3, h4⟩ := List.mem_map.mp (KM.mem_img.mp h1)
            exact ⟨b, h3, by rw [h4]; exact h2⟩
        have ex2 : Ex H (upd H' p' (.lst (ns.map V.int))) := (e1.trans ex).trans (Ex.new np')
        refine q p' (ns.map V.int) _ ((e1.trans ex).back np') ex2 upd_same ?_
        have : ((KM.img (ts.map f)).map iD) = ns.map D.int := by rw [e0, List.map_map]; rfl
        rw [this]
        exact isAll_ints ns
end
end Y
set_option autoImplicit false
set_option linter.all false
/-! Families put in: defs. -/
namespace KM
def putS (sh : List (List T)) (rows : List T) (e : Nat) : List T := rows.flatMap fun row => (sh.getD e []).map fun more => row ++ more
def putR (sh : List (List T)) (lot : T) : List T := lot.foldl (putS sh) [[]]
def putL (lots : List T) (sh : List (List T)) : List T := lots.flatMap (putR sh)
def up (s : Nat) (L : List T) : List T := L.map fun l => l.map fun f => f + s
def startsS (a : List Nat × Nat) (n : Nat) : List Nat × Nat := (a.1 ++ [a.2], a.2 + n)
/-- where each begins, and the end -/
def starts (ns : List Nat) : List Nat := (ns.foldl startsS ([], 0)).1
theorem starts_acc : ∀ (ns : List Nat) (a : List Nat) (s : Nat), (ns.foldl startsS (a, s)) = (a ++ (ns.foldl startsS ([], s)).1, s + ns.sum)
  | [], a, s => by simp
  | n :: ns, a, s => by
    rw [List.foldl_cons, List.foldl_cons]
    show List.foldl startsS (a ++ [s], s + n) ns = (a ++ (List.foldl startsS ([] ++ [s], s + n) ns).1, s + (n :: ns).sum)
    rw [starts_acc ns (a ++ [s]) (s + n), starts_acc ns ([] ++ [s]) (s + n)]
    simp [Nat.add_assoc]
theorem starts_len (ns : List Nat) : (starts ns).length = ns.length := by
  have : ∀ (ns : List Nat) (a : List Nat × Nat), (ns.foldl startsS a).1.length = a.1.length + ns.length := by
    intro ns
    induction ns with
    | nil => intro a; simp
    | cons n ns ih =>
      intro a
      rw [List.foldl_cons, ih]
      simp [startsS]
      omega
  simpa [starts] using this ns ([], 0)
def shares (rows : List (Nat × List T)) : List (List T) := (List.range rows.length).map fun e => up ((starts (rows.map (·.1))).getD e 0) ((rows.getD e (0, [])).2)
end KM
set_option autoImplicit false
set_option linter.all false
/-! Families side by side, together. -/
namespace KM
abbrev Rw := Nat × List T
def togS (a : Nat × List T × List T) (r : Rw) : Nat × List T × List T := (a.1 + r.1, a.2.1 ++ up a.1 r.2, a.2.2.flatMap fun l => (up a.1 r.2).map fun o => l ++ o)
def tog (rows : List Rw) : Nat × List T × List T := rows.foldl togS (0, [], [[]])
/-- ascending sets between s and e, none within another -/
structure An (s e : Nat) (X : List T) : Prop where
  nd : X.Nodup
  asc : ∀ l ∈ X, Asc l
  ge : ∀ l ∈ X, ∀ x ∈ l, s ≤ x
  lt : ∀ l ∈ X, ∀ x ∈ l, x < e
  an : ∀ l ∈ X, ∀ m ∈ X, (∀ x ∈ l, x ∈ m) → l = m
theorem mem_up {s : Nat} {L : List T} {l : T} : l ∈ up s L ↔ ∃ m ∈ L, l = m.map fun f => f + s := by
  unfold up
  rw [List.mem_map]
  constructor
  · rintro ⟨m, h, rfl⟩; exact ⟨m, h, rfl⟩
  · rintro ⟨m, h, rfl⟩; exact ⟨m, h, rfl⟩
theorem map_add_inj {s : Nat} {a b : T} (h : (a.map fun f => f + s) = b.map fun f => f + s) : a = b := by
  have := congrArg (List.map fun f => f - s) h
  rw [List.map_map, List.map_map] at this
  have e : ∀ l : T, l.map ((fun f => f - s) ∘ fun f => f + s) = l := fun l => by
    conv => rhs; rw [← List.map_id l]
    exact List.map_congr_left fun x _ => by simp
  rw [e, e] at this
  exact this
theorem up_an {n s : Nat} {L : List T} (g : GF n L) : An s (s + n) (up s L) ∧ ∀ l ∈ up s L, l ≠ [] := by
  refine ⟨⟨?_, fun l hl => ?_, fun l hl x hx => ?_, fun l hl x hx => ?_, fun l hl m hm k => ?_⟩, fun l hl => ?_⟩
  · exact List.pairwise_map.mpr ((nodup_of_lt g.g.lt).imp fun h e => h (map_add_inj e))
  · obtain ⟨m, hm, rfl⟩ := mem_up.mp hl
    exact List.pairwise_map.mpr ((g.g.asc m hm).imp fun h => by omega)
  · obtain ⟨m, hm, rfl⟩ := mem_up.mp hl
    obtain ⟨y, _, rfl⟩ := List.mem_map.mp hx
    omega
  · obtain ⟨m, hm, rfl⟩ := mem_up.mp hl
    obtain ⟨y, hy, rfl⟩ := List.mem_map.mp hx
    have := g.lt m hm y hy
    omega
  · obtain ⟨l', hl', rfl⟩ := mem_up.mp hl
    obtain ⟨m', hm', rfl⟩ := mem_up.mp hm
    rw [g.g.anti l' hl' m' hm' fun x hx => ?_]
    obtain ⟨y, hy, e⟩ := List.mem_map.mp (k _ (List.mem_map.mpr ⟨x, hx, rfl⟩))
    have : y = x := by omega
    rw [← this]; exact hy
  · obtain ⟨m, hm, rfl⟩ := mem_up.mp hl
    simpa using g.lne m hm
theorem cat_an {s m e : Nat} {X Y : List T} (a : An s m X) (b : An m e Y) (hX : ∀ l ∈ X, l ≠ []) (hY : ∀ l ∈ Y, l ≠ []) (sm : s ≤ m) (me : m ≤ e) : An s e (X ++ Y) := by
  have apart : ∀ l ∈ X, ∀ k ∈ Y, ∀ x ∈ l, x ∉ k := fun l hl k hk x hx hx' => by
    have := a.lt l hl x hx
    have := b.ge k hk x hx'
    omega
  refine ⟨List.nodup_append.mpr ⟨a.nd, b.nd, fun l hl k hk z => ?_⟩, fun l hl => ?_, fun l hl x hx => ?_, fun l hl x hx => ?_, fun l hl k hk z => ?_⟩
  · subst z
    obtain ⟨x, r, rfl⟩ := List.exists_cons_of_ne_nil (hX l hl)
    exact apart _ hl _ hk x (by simp) (by simp)
  · rcases List.mem_append.mp hl with h | h
    · exact a.asc l h
    · exact b.asc l h
  · rcases List.mem_append.mp hl with h | h
    · exact a.ge l h x hx
    · have := b.ge l h x hx; omega
  · rcases List.mem_append.mp hl with h | h
    · have := a.lt l h x hx; omega
    · exact b.lt l h x hx
  · rcases List.mem_append.mp hl with h | h <;> rcases List.mem_append.mp hk with h' | h'
    · exact a.an l h k h' z
    · obtain ⟨x, r, rfl⟩ := List.exists_cons_of_ne_nil (hX l h)
      exact absurd (z x (by simp)) (apart _ h _ h' x (by simp))
    · obtain ⟨x, r, rfl⟩ := List.exists_cons_of_ne_nil (hY l h)
      exact absurd (by simp) (apart _ h' _ h x (z x (by simp)))
    · exact b.an l h k h' z
theorem prod_an {s m e : Nat} {X Y : List T} (a : An s m X) (b : An m e Y) (sm : s ≤ m) (me : m ≤ e) : An s e (X.flatMap fun l => Y.map fun o => l ++ o) := by
  have mem : ∀ {l : T}, l ∈ (X.flatMap fun l => Y.map fun o => l ++ o) → ∃ p ∈ X, ∃ q ∈ Y, l = p ++ q := fun {l} h => by
    obtain ⟨p, hp, h⟩ := List.mem_flatMap.mp h
    obtain ⟨q, hq, rfl⟩ := List.mem_map.mp h
    exact ⟨p, hp, q, hq, rfl⟩
  have parts : ∀ {p q p' q' : T}, p ∈ X → q ∈ Y → p' ∈ X → q' ∈ Y → (∀ x ∈ p ++ q, x ∈ p' ++ q') → p = p' ∧ q = q' := fun {p q p' q'} hp hq hp' hq' k => by
    constructor
    · refine a.an p hp p' hp' fun x hx => ?_
      rcases List.mem_append.mp (k x (List.mem_append_left _ hx)) with h | h
      · exact h
      · have := a.lt p hp x hx
        have := b.ge q' hq' x h
        omega
    · refine b.an q hq q' hq' fun x hx => ?_
      rcases List.mem_append.mp (k x (List.mem_append_right _ hx)) with h | h
      · have := a.lt p' hp' x h
        have := b.ge q hq x hx
        omega
      · exact h
  refine ⟨?_, fun l hl => ?_, fun l hl x hx => ?_, fun l hl x hx => ?_, fun l hl k hk z => ?_⟩
  · refine List.pairwise_flatMap.mpr ⟨fun p hp => List.pairwise_map.mpr (List.Pairwise.imp_of_mem (fun {q q'} hq hq' h e => h (parts hp hq hp hq' fun x hx => e ▸ hx).2) b.nd), ?_⟩
    refine List.Pairwise.imp_of_mem (fun {p p'} hp hp' h => ?_) a.nd
    intro l hl l' hl' e
    obtain ⟨q, hq, rfl⟩ := List.mem_map.mp hl
    obtain ⟨q', hq', rfl⟩ := List.mem_map.mp hl'
    exact h (parts hp hq hp' hq' fun x hx => e ▸ hx).1
  · obtain ⟨p, hp, q, hq, rfl⟩ := mem hl
    refine List.pairwise_append.mpr ⟨a.asc p hp, b.asc q hq, fun x hx y hy => ?_⟩
    have := a.lt p hp x hx
    have := b.ge q hq y hy
    omega
  · obtain ⟨p, hp, q, hq, rfl⟩ := mem hl
    rcases List.mem_append.mp hx with h | h
    · exact a.ge p hp x h
    · have := b.ge q hq x h; omega
  · obtain ⟨p, hp, q, hq, rfl⟩ := mem hl
    rcases List.mem_append.mp hx with h | h
    · have := a.lt p hp x h; omega
    · exact b.lt q hq x h
  · obtain ⟨p, hp, q, hq, rfl⟩ := mem hl
    obtain ⟨p', hp', q', hq', rfl⟩ := mem hk
    obtain ⟨e1, e2⟩ := parts hp hq hp' hq' z
    rw [e1, e2]
/-- what is known after some rows -/
structure Tg (a : Nat × List T × List T) : Prop where
  one : An 0 a.1 a.2.1
  ne : ∀ l ∈ a.2.1, l ≠ []
  ev : An 0 a.1 a.2.2
  evne : a.2.2 ≠ []
theorem tg_0 : Tg (0, [], [[]]) := ⟨⟨by simp, by simp, by simp, by simp, by simp⟩, by simp, ⟨by simp, by simp [Asc], by simp, by simp, by simp⟩, by simp⟩
theorem tg_step {a : Nat × List T × List T} {r : Rw} (t : Tg a) (g : GF r.1 r.2) : Tg (togS a r) ∧ 1 ≤ (togS a r).1 ∧ (togS a r).2.1 ≠ [] ∧ ∀ l ∈ (togS a r).2.2, l ≠ [] := by
  obtain ⟨u1, u2⟩ := up_an (s := a.1) g
  have une : up a.1 r.2 ≠ [] := by unfold up; simpa using g.ne
  refine ⟨⟨cat_an t.one u1 t.ne u2 (Nat.zero_le _) (Nat.le_add_right _ _), fun l hl => ?_, prod_an t.ev u1 (Nat.zero_le _) (Nat.le_add_right _ _), ?_⟩, ?_, ?_, fun l hl => ?_⟩
  · rcases List.mem_append.mp hl with h | h
    · exact t.ne l h
    · exact u2 l h
  · obtain ⟨p, r1, e1⟩ := List.exists_cons_of_ne_nil t.evne
    obtain ⟨q, r2, e2⟩ := List.exists_cons_of_ne_nil une
    refine List.ne_nil_of_mem (a := p ++ q) (List.mem_flatMap.mpr ⟨p, by rw [e1]; simp, List.mem_map.mpr ⟨q, by rw [e2]; simp, rfl⟩⟩)
  · have := g.n1
    show 1 ≤ a.1 + r.1
    omega
  · show a.2.1 ++ up a.1 r.2 ≠ []
    simp [une]
  · obtain ⟨p, hp, h⟩ := List.mem_flatMap.mp hl
    obtain ⟨q, hq, rfl⟩ := List.mem_map.mp h
    have := u2 q hq
    simp [this]
theorem tg_fold : ∀ (rows : List Rw) (a : Nat × List T × List T), Tg a → (∀ r ∈ rows, GF r.1 r.2) → Tg (rows.foldl togS a) ∧ (rows ≠ [] → 1 ≤ (rows.foldl togS a).1 ∧ (rows.foldl togS a).2.1 ≠ [] ∧ ∀ l ∈ (rows.foldl togS a).2.2, l ≠ [])
  | [], a, t, _ => ⟨t, fun h => absurd rfl h⟩
  | [r], a, t, h => by
    obtain ⟨t', p⟩ := tg_step t (h r (by simp))
    exact ⟨t', fun _ => p⟩
  | r :: r' :: rows, a, t, h => by
    obtain ⟨t', _⟩ := tg_step t (h r (by simp))
    obtain ⟨z, zz⟩ := tg_fold (r' :: rows) (togS a r) t' fun x hx => h x (List.mem_cons_of_mem _ hx)
    exact ⟨z, fun _ => zz (by simp)⟩
theorem tog_ok {rows : List Rw} (hne : rows ≠ []) (h : ∀ r ∈ rows, GF r.1 r.2) : Tg (tog rows) ∧ 1 ≤ (tog rows).1 ∧ (tog rows).2.1 ≠ [] ∧ ∀ l ∈ (tog rows).2.2, l ≠ [] := by
  obtain ⟨a, b⟩ := tg_fold rows _ tg_0 h
  exact ⟨a, b hne⟩
theorem an_gf {n : Nat} {X : List T} (a : An 0 n X) (n1 : 1 ≤ n) (ne : X ≠ []) (hn : ∀ l ∈ X, l ≠ []) : GF n (srt X) := gf_srt n1 ne a.nd a.asc hn a.lt a.an
/-! the program's way of it -/
theorem starts1 (a : Nat) : starts [a] = [0] := rfl
theorem starts2 (a b : Nat) : starts [a, b] = [0, 0 + a] := rfl
theorem starts3 (a b c : Nat) : starts [a, b, c] = [0, 0 + a, 0 + a + b] := rfl
def ones (k : Nat) : List T := (List.range k).map fun e => [e]
theorem put_one1 (r : Rw) : putL (ones 1) (shares [r]) = (tog [r]).2.1 := by
  simp [putL, ones, shares, putR, putS, tog, togS, starts, startsS, List.range_succ]
theorem put_one2 (r q : Rw) : putL (ones 2) (shares [r, q]) = (tog [r, q]).2.1 := by
  simp [putL, ones, shares, putR, putS, tog, togS, starts, startsS, List.range_succ]
theorem put_one3 (r q z : Rw) : putL (ones 3) (shares [r, q, z]) = (tog [r, q, z]).2.1 := by
  simp [putL, ones, shares, putR, putS, tog, togS, starts, startsS, List.range_succ]
theorem put_all1 (r : Rw) : putL [List.range 1] (shares [r]) = (tog [r]).2.2 := by
  simp [putL, shares, putR, putS, tog, togS, starts, startsS, List.range_succ]
theorem put_all2 (r q : Rw) : putL [List.range 2] (shares [r, q]) = (tog [r, q]).2.2 := by
  simp [putL, shares, putR, putS, tog, togS, starts, startsS, List.range_succ]
theorem put_all3 (r q z : Rw) : putL [List.range 3] (shares [r, q, z]) = (tog [r, q, z]).2.2 := by
  simp [putL, shares, putR, putS, tog, togS, starts, startsS, List.range_succ]
end KM
set_option Elab.async false
set_option linter.all false
set_option autoImplicit false
set_option maxRecDepth 100000
set_option maxHeartbeats 2000000
/-! Several except clauses, with and without names, after the kit's rules for one named clause and for several unnamed ones. -/
namespace Y
open PySem PySem.Spec PyProof.Rows L2
abbrev Suite := Addr → Value → Option Addr → TS
/-- the ends within a named clause -/
def unb (D : Ends) (i : Nat) : Ends := ⟨fun σ H => D.nx (σ.set i none) H, D.rt, fun σ H => D.bk (σ.set i none) H, fun σ H => D.ct (σ.set i none) H⟩
def wManyA (K : PySem.W.Frag) (Wout : WX) (D : Ends) : List (Value × Option Nat × Suite) → WX
  | [] => Wout
  | (c, o, ts) :: r => fun cls d σ H => ∃ b, PySem.W.exmOne K cls c = some b ∧ (b = true → ∀ a, H a = none → match o with
      | none => ts a cls d D σ H
      | some i => ts a cls d (unb D i) (σ.set i (some (.ref a))) H) ∧ (b = false → wManyA K Wout D r cls d σ H)
def SuiteOk (X : Cx) (su : List Stmt) (ts : Suite) : Prop := ∀ (a : Addr) (oe : Obj) (cls : Value) (d : Option Addr) (pn : List (Addr × Obj)), Zc cls d oe → (∃ vs, oe.data = .fields vs) → PSs (X.suite a ((a, oe) :: pn)) su (ts a cls d)
inductive HdsA (X : Cx) : List ExceptHandler → List (Value × Option Nat × Suite) → Prop
  | nil : HdsA X [] []
  | one {x : Str} {c : Value} {ts : Suite} {b₀ : Stmt} {su : List Stmt} {np p' : Pos} {hds : List ExceptHandler} {l : List (Value × Option Nat × Suite)} (hc : Names X x c) (hsu : SuiteOk X (b₀ :: su) ts) (r : HdsA X hds l) : HdsA X (.ExceptHandler (some (.Name x np)) none (b₀ :: su) p' :: hds) ((c, none, ts) :: l)
  | nam {x n : Str} {i : Nat} {c : Value} {ts : Suite} {b₀ : Stmt} {su : List Stmt} {np p' : Pos} {hds : List ExceptHandler} {l : List (Value × Option Nat × Suite)} (hi : X.N[i]? = some n) (hln : X.env.kindOf n = some .local) (hc : Names X x c) (hsu : SuiteOk X (b₀ :: su) ts) (r : HdsA X hds l) :
      HdsA X (.ExceptHandler (some (.Name x np)) (some n) (b₀ :: su) p' :: hds) ((c, some i, ts) :: l)
section
variable {X : Cx} {body : List Stmt} {h₀ : ExceptHandler} {hds : List ExceptHandler} {l : List (Value × Option Nat × Suite)} {pos : Pos} {tb : WX → TS} {Wout : WX}
theorem ps_try_manyA (hs : X.stack = X.env :: X.outer) (hf : X.env.frame = some X.env.locals) (hN : X.N.Nodup) (tk : Takes X Wout)
    (hb : ∀ (W : WX) (pn : List (Addr × Obj)) (xe : Value → Shared → Prop), Takes (X.tr pn xe) W → PassesOwn (model X.prog X.w) X.A X.env xe → PSs (X.tr pn xe) body (tb W)) (hh : HdsA X (h₀ :: hds) l) :
    PS X (.Try body (h₀ :: hds) [] [] pos) (fun D σ H => tb (wManyA X.K Wout D l) D σ H) := by
  refine ⟨fun pins s σ H D I h => wpAny_Try_except (wpAny_mono ((hb (wManyA X.K Wout D l) (X.pn ++ pins) (fun e s₁ => wpAny (model X.prog X.w) X.A (noteFrame e X.env) (fun _ s₂ => wpAny (model X.prog X.w) X.A (setFlight e none) (fun _ s₃ => wpAny (model X.prog X.w) X.A (handleBy e X.env (h₀ :: hds)) (SP X pins D) X.xe s₃) X.xe s₂) X.xe s₁)
    (fun u s' xx => ?_) PassesOwn.looking).run [] s σ H D (I.toTry _) h) (fun f s1 hsp => ?_) (fun e s1 he => he))⟩
  · obtain ⟨a, B, sI, pins', σ', H', cls, d, rfl, J', nb, up, sky, na, os, ag, w⟩ := xx
    have hfr : X.A.frames = some (X.env :: X.outer) := I.ok.frames.trans (congrArg some hs)
    have J : Inv X pins σ' H' sI := J'.ofTry I.ok
    show wpAny (model X.prog X.w) X.A (noteFrame (.ref a) X.env) _ _ _
    refine Sky.land Zc.steady hfr hf (hs ▸ sky) fun h3 fl3 up3 => ?_
    have J3 : Inv X pins σ' H' { s' with heap := h3 } := J.landed nb fl3.1 (up.trans up3) os ag
    obtain ⟨oe3, vs3, he3, hz3, hd3⟩ := fl3.there
    have nfr : a ∉ frs (X.env :: X.outer) := fun hm => by
      obtain ⟨_, o', e', hnf⟩ := fl3.2.2.1.mem hm
      cases he3.symm.trans e'
      exact hnf _ hd3
    have nL : a ≠ X.env.locals := fun z => nfr (List.mem_filterMap.mpr ⟨X.env, by simp, by rw [hf, z]⟩)
    have nF : a ∉ X.fs := fun hm => let ⟨e, he, q⟩ := List.mem_filterMap.mp hm; nfr (List.mem_filterMap.mpr ⟨e, by simp [he], q⟩)
    have S3 := J3.suite he3 hd3 na nL nF
    have LT : PySem.W.Looks (model X.prog X.w) h3 (typeOf (.ref a)) cls := fun A Q E s k q => wpAny_typeOf_ref (k _ _ he3) (hz3.1 ▸ q)
    have test : ∀ {x : Str} {c : Value} {np : Pos} {Q : Value → Shared → Prop} {E : Value → Shared → Prop}, Names X x c → Q c { s' with heap := h3 } → wpAny (model X.prog X.w) (X.A.mark (some (.ref a))) (eval (.Name x np) X.env) Q E { s' with heap := h3 } := fun {x c np Q E} hc q => by
      rcases hc with ⟨hg, hdbg, hm | ⟨hm, hv, hnn⟩⟩
      · exact ld_glob (X := X.suite a ((a, oe3) :: (X.pn ++ pins))) S3 hg hm q hdbg
      · exact ld_blt (X := X.suite a ((a, oe3) :: (X.pn ++ pins))) S3 hg hm hv q hnn hdbg
    have go : ∀ {hds' : List ExceptHandler} {l' : List (Value × Option Nat × Suite)}, HdsA X hds' l' → wManyA X.K Wout D l' cls d σ' H' → wpAny (model X.prog X.w) X.A (handleBy (.ref a) X.env hds') (SP X pins D) X.xe { s' with heap := h3 } := by
      intro hds' l' hk
      induction hk with
      | nil =>
        refine fun w => wpAny_handleBy_nil ?_
        obtain ⟨k1, k2, k3, oe, vs, T, oT, ts', he, hz, hd, h1, hr⟩ := id fl3
        have fin : wpAny (model X.prog X.w) X.A (setFlight (.ref a) X.env.frame) (fun _ s4 => wpAny (model X.prog X.w) X.A (throw (.ref a) : Sem Flow) (SP X pins D) X.xe s4) X.xe { s' with heap := h3 } :=
          hf.symm ▸ HandSPX.setFlight_upZ fl3 fun h4 hh4 up4 => wpAny_throw (tk _ _ ⟨a, B, sI, pins, σ', H', cls, d, rfl, J, nb, (up.trans up3).trans up4, .inr (.inr (hs.symm ▸ hh4)), na, os, ag, w⟩)
        unfold PySem.passOn
        refine wpAny_bind (wpAny_field he hd h1 ?_)
        rw [if_neg (show ¬ ((Value.ref T == Value.none) = true) by simp)]
        first | exact wpAny_bind (wpAny_pure (wpAny_bind fin)) | exact wpAny_bind fin
      | @one x c ts b₀ su np p' hds2 l2 hc hsu r ih =>
        rintro ⟨b, hb1, hyes, hno⟩
        refine wpAny_handleBy_cons (codeAny_handlers_test (test hc ((PySem.W.exm_one (M := model X.prog X.w) J3.kIn LT hb1).here ?_))) (by intro q; cases q)
        cases b with
        | false => exact ih (hno rfl)
        | true =>
          refine codeAny_handlers_suite (HandSPX.lands_againZ fl3 fun h4 fl4 up4 => ?_)
          obtain ⟨oe4, vs4, he4, hz4, hd4⟩ := fl4.there
          refine wpAny_mono ((hsu a oe4 cls d (X.pn ++ pins) hz4 ⟨_, hd4⟩).run [] _ _ H' _ ((J.landed nb fl4.1 ((up.trans up3).trans up4) os ag : Inv X pins σ' H' { s' with heap := h4 }).suite he4 hd4 na nL nF) (hyes rfl a na)) (fun f s6 hsp => ?_) (fun _ _ z => z.elim)
          cases f with
          | ret u => exact let ⟨v6, σ6, H6, S6, r6, q6⟩ := hsp; ⟨_, _, _, S6.unsuite I.ok, r6, q6⟩
          | next => exact let ⟨σ6, H6, S6, q6⟩ := hsp; ⟨_, _, S6.unsuite I.ok, q6⟩
          | brk => exact let ⟨σ6, H6, S6, q6⟩ := hsp; ⟨_, _, S6.unsuite I.ok, q6⟩
          | cont => exact let ⟨σ6, H6, S6, q6⟩ := hsp; ⟨_, _, S6.unsuite I.ok, q6⟩
      | @nam x n i c ts b₀ su np p' hds2 l2 hi hln hc hsu r ih =>
        rintro ⟨b, hb1, hyes, hno⟩
        refine wpAny_handleBy_cons (codeAny_handlers_test (test hc ((PySem.W.exm_one (M := model X.prog X.w) J3.kIn LT hb1).here ?_))) (by intro q; cases q)
        cases b with
        | false => exact ih (hno rfl)
        | true =>
          refine codeAny_handlers_suite_as (HandSPX.lands_againZ fl3 fun h4 fl4 up4 => ?_)
          obtain ⟨oe4, vs4, he4, hz4, hd4⟩ := fl4.there
          refine store_ok (X := X.suite a ((a, oe4) :: (X.pn ++ pins))) (v := .ref a) ((J.landed nb fl4.1 ((up.trans up3).trans up4) os ag : Inv X pins σ' H' { s' with heap := h4 }).suite he4 hd4 na nL nF) hN hi (.inl hln) rfl (fun s5 S5 => ?_) (.inr hln)
          refine wpAny_mono ((hsu a oe4 cls d (X.pn ++ pins) hz4 ⟨_, hd4⟩).run [] s5 _ H' _ S5 (hyes rfl a na)) (fun f s6 hsp => ?_) (fun _ _ z => z.elim)
          have end_ : ∀ {σ6 : L2.St} {H6 : Hp} {Q : Shared → Prop}, Inv (X.suite a ((a, oe4) :: (X.pn ++ pins))) [] σ6 H6 s6 → (∀ s7, Inv X pins (σ6.set i none) H6 s7 → Q s7) → wpAny (model X.prog X.w) X.A (do bindName X.env n .none; unbindBehindTheSuite X.env n p') (fun _ s7 => Q s7) X.xe s6 := fun S6 hq => gone_ok (S6.unsuite I.ok) hN hi hln hq
          cases f with
          | ret u => exact let ⟨v6, σ6, H6, S6, r6, q6⟩ := hsp; end_ S6 fun s7 J7 => ⟨_, _, _, J7, r6, q6⟩
          | next => exact let ⟨σ6, H6, S6, q6⟩ := hsp; end_ S6 fun s7 J7 => ⟨_, _, J7, q6⟩
          | brk => exact let ⟨σ6, H6, S6, q6⟩ := hsp; end_ S6 fun s7 J7 => ⟨_, _, J7, q6⟩
          | cont => exact let ⟨σ6, H6, S6, q6⟩ := hsp; end_ S6 fun s7 J7 => ⟨_, _, J7, q6⟩
    exact go hh w
  · cases f with
    | ret u => exact let ⟨v, σ', H', J', r, q⟩ := hsp; ⟨v, σ', H', J'.ofTry I.ok, r, q⟩
    | next => exact let ⟨σ', H', J', q⟩ := hsp; wpAny_execs_nil ⟨σ', H', J'.ofTry I.ok, q⟩
    | brk => exact let ⟨σ', H', J', q⟩ := hsp; ⟨σ', H', J'.ofTry I.ok, q⟩
    | cont => exact let ⟨σ', H', J', q⟩ := hsp; ⟨σ', H', J'.ofTry I.ok, q⟩
end
end Y
set_option Elab.async false
set_option linter.all false
set_option autoImplicit false
set_option maxRecDepth 100000
set_option maxHeartbeats 2000000
/-! As EX1, with the field size. -/
namespace Y
open PySem PySem.W PySem.Calls PyProof.Rows Builtin.ObjectAttr
/-- the body of such an __init__ -/
def exzBody (txt : Str) (j : Nat) (p0 p1 p2 p3 p4 p5 p6 p7 p8 p9 p10 p11 p12 : Pos) : List Stmt :=
  [.Expr (.Call (.Attribute (.Call (.Name "super" p0) [] [] p1) "__init__" p2) [.JoinedStr [.Constant (.str txt) j p3, .FormattedValue (.Name "size" p4) (-1) none p5] p6] [] p7) p8,
   .Assign [.Attribute (.Name "self" p9) "size" p10] (.Name "size" p11) p12]
def exzScope : Scope := { kind := .function, names := [("self", .local), ("size", .local), ("__class__", .free), ("super", .globalImplicit)], isGenerator := false, isCoroutine := false, more := [] }
/-- the class at C, its __init__ at f -/
structure ExcZ (K : Frag) (P : Program) (C f : Addr) (txt : Str) : Prop where
  ini : findIn K (.ref C) "__init__" = some (some (.ref f))
  own : excInitIn K C excB "Exception.__new__" = true
  ovr : excOver K C excB = true
  fn : isFn K (.ref f) = true
  def_ : ∃ (oc : Value) (od : Option Addr) (qual : Str) (par : Arguments) (dV kV doc pm ct : Value) (an : Option Addr) (cda cc : Addr) (osl : Array (Option Value)) (j : Nat) (p0 p1 p2 p3 p4 p5 p6 p7 p8 p9 p10 p11 p12 : Pos) (ar : Arg),
    K.lookup f = some ⟨oc, od, .func (ksFn "__init__" qual par (exzBody txt j p0 p1 p2 p3 p4 p5 p6 p7 p8 p9 p10 p11 p12) exzScope dV kV doc pm an (.ref cda) ct cc), osl⟩ ∧ codeIn K (.ref cda) qual = true ∧
      (∀ u v : Value, bindArgs (ksFn "__init__" qual par (exzBody txt j p0 p1 p2 p3 p4 p5 p6 p7 p8 p9 p10 p11 p12) exzScope dV kV doc pm an (.ref cda) ct cc) ⟨[u, v], []⟩ = (pure [(("self" : Str), u), (("size" : Str), v)] : Sem (List (Str × Value)))) ∧
      (par.posonlyargs ++ par.args).head? = some ar ∧ ar.arg = "self" ∧
      (∃ ccl cdd vs ccs file tf, K.lookup cda = some ⟨ccl, cdd, .fields vs, ccs⟩ ∧ vs[2]? = some (.str file tf) ∧ ((P.main.file : Str) == file) = true) ∧
      (∀ L : Addr, ∃ pl : Sem Bool, eval (.Call (.Attribute (.Call (.Name "super" p0) [] [] p1) "__init__" p2) [.JoinedStr [.Constant (.str txt) j p3, .FormattedValue (.Name "size" p4) (-1) none p5] p6] [] p7) (ksEnv qual exzScope L f (.ref cda) cc) = (do
      let ov ← attributeBase (.Call (.Name "super" p0) [] [] p1) "__init__" (ksEnv qual exzScope L f (.ref cda) cc) (eval (.Call (.Name "super" p0) [] [] p1) (ksEnv qual exzScope L f (.ref cda) cc))
      standAt p2.atName
      let (fm, first) ← holding [ov] (getMethod ov "__init__" pl)
      callWith p7 fm first (backTo p7 (starEach [.JoinedStr [.Constant (.str txt) j p3, .FormattedValue (.Name "size" p4) (-1) none p5] p6] (ksEnv qual exzScope L f (.ref cda) cc))) [])) ∧
      ∃ cl cld csl, K.lookup cc = some ⟨cl, cld, .cell (some (.ref C)), csl⟩
  sup : ks_superIn K C C "__init__" = some (some (.builtin "Exception.__init__"))
  opq : nsIn K cStatics "thirdparty.any" = some none
  sub : subIn K (.ref C) (.type "Exception") = some true
  slf : mroIn K C (.ref C) = some true
  sa : findIn K (.ref C) "__setattr__" = some (some (.builtin "object.__setattr__"))
  tk : takerIn K C "size" = some none
  hd : hasDictIn K C = true
  exC : subIn K (.ref C) (.type "BaseException") = some true
  tyC : typeIn K (.ref C) = some (.type "type")
  kC : keepIn K (.ref C) = true
  top : (P.main.scope.names.lookup ("super" : Str)).isSome = false
section
variable {P : Program} {w : World} {K : Frag} {C f : Addr} {txt : Str} {mg mb : Str → Option Value}
theorem exz_store {A : Around} {E : Value → Shared → Prop} {s : Shared} {x t : Addr} {v : Value} {Q : Unit → Shared → Prop} (c : ExcZ K P C f txt) (X : K.In s.heap) (hx : s.heap.get? x = some (excObj C t none .none))
    (q : ∀ dx h' tk, (∀ b o, b ≠ x → s.heap.get? b = some o → h'.get? b = some o) → s.heap.objs.size ≤ dx → h'.get? x = some (excObj C t (some dx) .none) → h'.Ns1 dx (fun y => if y = "size" then some v else none) → Q () { s with heap := h', toks := tk }) :
    wpAny (model P w) A (setAttr (.ref x) "size" v) Q E s := by
  have I : InstAt s.heap x (excObj C t none .none) C none := ⟨hx, rfl, rfl, trivial⟩
  obtain ⟨cd, hcd, hdd⟩ := any_some c.hd
  have xs : x ≠ s.heap.objs.size := Nat.ne_of_lt (Heap.lt_size hx)
  obtain ⟨h, g, d, tk0, os⟩ := s
  refine set_plain X I c.sa (osa_openX (od := none) PySem.F.store_Exception X I c.ovr c.tk fun b => ?_)
  refine wpAny_bind (wpAny_pure (wpAny_bind (instanceDict_exc hx (looks_clsIn X hcd) hdd ?_)))
  show wpAny _ _ (storeInDict h.objs.size _ _ v) _ _ _
  have hx1 : (h.push (dictOf [] 0)).get? x = some (excObj C t none .none) := Heap.get?_push_of_some _ hx
  refine PySem.HandSPX.store_in_new ⟨_, #[], _, (Heap.get?_update_ne _ _ _ _ xs.symm).trans (Heap.get?_push_at rfl rfl), rfl, (fun e he => absurd he (by simp)), fun _ => rfl⟩ fun h' tk' hn hs => ?_
  refine q h.objs.size h' tk' (fun b o hb ho => ?_) (Nat.le_refl _) ?_ hn
  · exact (hs.2 b (Nat.ne_of_lt (Heap.lt_size ho))).trans ((Heap.get?_update_ne _ _ _ _ hb).trans (Heap.get?_push_of_some _ ho))
  · exact (hs.2 x xs).trans (Heap.get?_update_self _ hx1 rfl)
theorem exz_body {A : Around} {E : Value → Shared → Prop} {s : Shared} {R : Flow → Shared → Prop} {G : Heap} {m : Str → Option Value} {L x t : Addr} {n : Int} {tn : Tok} {rest : List Value} {oc cl ccl : Value} {od cld cdd : Option Addr} {qual file : Str} {par : Arguments} {dV kV doc pm ct : Value} {an : Option Addr}
    {cda cc : Addr} {osl csl ccs : Array (Option Value)} {vs : Array Value} {tf : Tok} {j : Nat} {p0 p1 p2 p3 p4 p5 p6 p7 p8 p9 p10 p11 p12 : Pos} {ar : Arg} (c : ExcZ K P C f txt)
    (F : Fr G L s.heap m) (X : K.In G) (N : News G L s.heap [(x, excObj C t none .none), (t, excTup rest)]) (xt : x ≠ t) (gg : G.Ns mainGlobals mg) (gs : mg "super" = none) (gb : G.Ns builtinsNs mb) (bs : mb "super" = some (.type "super"))
    (hf : K.lookup f = some ⟨oc, od, .func (ksFn "__init__" qual par (exzBody txt j p0 p1 p2 p3 p4 p5 p6 p7 p8 p9 p10 p11 p12) exzScope dV kV doc pm an (.ref cda) ct cc), osl⟩)
    (hp : (par.posonlyargs ++ par.args).head? = some ar) (har : ar.arg = "self") (hcd : K.lookup cda = some ⟨ccl, cdd, .fields vs, ccs⟩) (hvs : vs[2]? = some (.str file tf)) (hfile : ((P.main.file : Str) == file) = true)
    (hcc : K.lookup cc = some ⟨cl, cld, .cell (some (.ref C)), csl⟩) {pl : Sem Bool} (hcall : eval (.Call (.Attribute (.Call (.Name "super" p0) [] [] p1) "__init__" p2) [.JoinedStr [.Constant (.str txt) j p3, .FormattedValue (.Name "size" p4) (-1) none p5] p6] [] p7) (ksEnv qual exzScope L f (.ref cda) cc) = (do
      let ov ← attributeBase (.Call (.Name "super" p0) [] [] p1) "__init__" (ksEnv qual exzScope L f (.ref cda) cc) (eval (.Call (.Name "super" p0) [] [] p1) (ksEnv qual exzScope L f (.ref cda) cc))
      standAt p2.atName
      let (fm, first) ← holding [ov] (getMethod ov "__init__" pl)
      callWith p7 fm first (backTo p7 (starEach [.JoinedStr [.Constant (.str txt) j p3, .FormattedValue (.Name "size" p4) (-1) none p5] p6] (ksEnv qual exzScope L f (.ref cda) cc))) [])) (hm1 : m "self" = some (.ref x)) (hm2 : m "size" = some (.int n tn)) (hn : n.natAbs.log2 < 1920) (ht : (Str.empty ++ txt ++ (toString n : Str)).length ≤ sizeLine) (ht1 : (Str.empty ++ txt).length ≤ sizeLine)
    (q : ∀ h' t' dx tk, (∀ b o, G.get? b = some o → h'.get? b = some o) → h'.get? x = some (excObj C t' (some dx) .none) → h'.Ns1 dx (fun y => if y = "size" then some (.int n tn) else none) → G.objs.size ≤ dx → dx ≠ x → R .next { s with heap := h', toks := tk }) :
    PySem.wpAt (model P w) A (.func (exzBody txt j p0 p1 p2 p3 p4 p5 p6 p7 p8 p9 p10 p11 p12) (ksEnv qual exzScope L f (.ref cda) cc)) (execs (exzBody txt j p0 p1 p2 p3 p4 p5 p6 p7 p8 p9 p10 p11 p12) (ksEnv qual exzScope L f (.ref cda) cc)) R E s := by
  have XS : K.In s.heap := X.keeps F.keep
  have I : InstAt s.heap x (excObj C t none .none) C none := ⟨(N (x, excObj C t none .none) (by simp)).1, rfl, rfl, trivial⟩
  obtain ⟨cd, hcdC, -⟩ := any_some c.hd
  refine ks_wpAt_execs_cons (ks_wpAt_Expr_any (ks_wpAt_MethodCall (pl := pl) ?_ hcall))
  obtain ⟨h, g, d, tk0, os⟩ := s
  obtain ⟨oD, hD1, hD2⟩ : ∃ oD, h.get? C = some oD ∧ oD.data = .cls cd := by
    unfold clsIn at hcdC
    split at hcdC
    · rename_i z1 z2 z3 z4 ho
      cases hcdC
      exact ⟨_, XS _ _ ho, rfl⟩
    · cases hcdC
  refine ks_wpAt_super_base (env := ksEnv qual exzScope L f (.ref cda) cc) rfl rfl (by decide) rfl (XS _ _ hf) rfl hp rfl (XS _ _ hcd) rfl hvs hfile c.top ?_
  refine ks_loadName_global rfl rfl (loadGlobal_builtin (env := ksEnv qual exzScope L f (.ref cda) cc) (gg.keeps F.keep) gs (gb.keeps F.keep) bs ⟨rfl, ?_⟩)
  refine wpAny_loadName_free rfl rfl rfl ⟨_, XS _ _ hcc, rfl⟩ ?_
  rw [har]
  refine wpAny_loadName_local rfl rfl F.ns hm1 ?_
  refine ks_wpAny_isType_cls hD1 hD2 ⟨rfl, ?_⟩
  refine ks_wpAny_call_super hD1 hD2 I.at_ I.cls (fun c' e => ?_) (looks_mroIn XS c.slf) (fun h1 e1 k1 => ?_)
  · cases e
  obtain ⟨F1, N1, l1⟩ := ks_newsPush (s := ⟨h, g, d, tk0, os⟩) F N rfl e1 k1
  have I1 : InstAt h1 x (excObj C t none .none) C none := ⟨(N1 (x, excObj C t none .none) (by simp)).1, rfl, rfl, trivial⟩
  refine kxs_method kxs_Exception (s := ⟨h1, g, d, tk0, os⟩) F1 X N1 (so := h.objs.size) (D := C) (by simp) I1 c.opq c.sup c.sub (by decide) fun q1 h2 F2 N2 l2 => ?_
  refine kxs_callWith1 (i := "Exception.__init__") (x := x) N2 (by simp) (spliced_more (env := ksEnv qual exzScope L f (.ref cda) cc) ?_)
  refine wpAny_JoinedStr ?_
  show Joins _ _ _ [eval _ _, eval _ _] _ _ _
  refine Constant_str ⟨txt, _, rfl, ht1, ?_⟩
  refine wpAny_FormattedValue_plain (wpAny_Name (wpAny_loadName_local rfl rfl F2.ns hm2 (wpAny_formatField_int hn ⟨_, _, rfl, ht, ?_⟩)))
  refine ⟨ht, ?_⟩
  have xq : x < q1 := l2 (x, excObj C t none .none) (by simp)
  have xs : x < h.objs.size := l1 (x, excObj C t none .none) (by simp)
  refine spliced_none ⟨kxs_at N2 (by simp), ?_⟩
  refine kxs_call (x := x) F2 X N2 PySem.F.excBase_Exception c.own (by simp) (.tail (Nat.ne_of_gt xq) (.tail (Nat.ne_of_gt xs) (.head fun p hp => by
    have : p = (t, excTup rest) := by simpa using hp
    rw [this]
    exact fun z => xt z.symm))) (by simp [sizeLine_eq]) fun t3 h3 F3 N3 l3 => ?_
  have hx3 : h3.get? x = some (excObj C t3 none .none) := (N3 (x, excObj C t3 none .none) (by simp)).1
  refine ks_wpAt_execs_cons (ks_wpAt_Assign_Attr (wpAt_of_wpAny (wpAny_Name (wpAny_loadName_local rfl rfl F3.ns hm2 (wpAny_Name (wpAny_loadName_local rfl rfl F3.ns hm1 ?_))))))
  refine exz_store c (X.keeps F3.keep) hx3 fun dx h4 tk k4 hdx hx4 hn4 => ?_
  refine wpAt_of_wpAny (wpAny_execs_nil ?_)
  have gx : G.get? x = none := (N (x, excObj C t none .none) (by simp)).2.2
  have d3 : h3.get? dx = none := by
    cases z : h3.get? dx with
    | none => rfl
    | some o => exact absurd (Nat.lt_of_lt_of_le (Heap.lt_size z) hdx) (Nat.lt_irrefl _)
  refine q h4 t3 dx tk (fun b o e => k4 b o (fun z => by rw [z, gx] at e; cases e) (F3.keep b o e)) hx4 hn4 ?_ (fun z => by rw [z, hx3] at d3; cases d3)
  obtain ⟨oL, _, _, hoL, _⟩ := F3.ns
  exact Nat.le_trans F3.above (Nat.le_trans (Nat.le_of_lt (Heap.lt_size hoL)) hdx)
/-- C(n) -/
theorem exz_call {A : Around} {E : Value → Shared → Prop} {s : Shared} {n : Int} {tn : Tok} {Q : Value → Shared → Prop} (c : ExcZ K P C f txt) (X : K.In s.heap) (lim : s.heap.NoLimit) (gg : s.heap.Ns mainGlobals mg) (gs : mg "super" = none) (gb : s.heap.Ns builtinsNs mb)
    (bs : mb "super" = some (.type "super")) (hr : (A.under (.builtin "type.__call__" ⟨[.ref C, .int n tn], []⟩)).depth < recursionLimit) (hn : n.natAbs.log2 < 1920) (ht : (Str.empty ++ txt ++ (toString n : Str)).length ≤ sizeLine) (ht1 : (Str.empty ++ txt).length ≤ sizeLine)
    (q : ∀ h' e t' dx tk, (∀ b o, s.heap.get? b = some o → h'.get? b = some o) → s.heap.objs.size ≤ e → h'.get? e = some (excObj C t' (some dx) .none) → h'.Ns1 dx (fun y => if y = "size" then some (.int n tn) else none) → s.heap.objs.size ≤ dx → dx ≠ e →
      Q (.ref e) { s with heap := h', toks := tk }) : wpAny (model P w) A (call (.ref C) [.int n tn]) Q E s := by
  obtain ⟨nm, N', qn, bs', bm, hdct, sn, sub, ab, col, dd, k0, k1, k2, k3, k5, hC, hT⟩ := excInit_of X c.own
  obtain ⟨oc, od, qual, par, dV, kV, doc, pm, ct, an, cda, cc, osl, j, p0, p1, p2, p3, p4, p5, p6, p7, p8, p9, p10, p11, p12, ar, hf, hcode, hbind, hp, har, ⟨ccl, cdd, vs, ccs, file, tf, hcd, hvs, hfile⟩, hcall, cl, cld, csl, hcc⟩ := c.def_
  have hi' : Looks (model P w) s.heap (typeLookup (.ref C) "__init__") (some (.ref f)) := looks_findIn X c.ini
  have hof := X _ _ hf
  have hcf : oc = .type "function" := by
    have := c.fn
    unfold isFn typeIn at this
    simp only [hf] at this
    simpa using this
  obtain ⟨h, g, d, tk0, os⟩ := s
  refine wpAny_call (PX.call_own PySem.F.excBase_Exception hT hC hi' (fun self => exc_bind hof hcf self) (by simp [sizeLine_eq]) ?_)
  have kk : ∀ b o, h.get? b = some o → ((h.push (excTup [.int n tn])).push (excObj C h.objs.size none .none)).get? b = some o := fun b o e => Heap.get?_push_of_some _ (Heap.get?_push_of_some _ e)
  refine ks_codeAny_call_defAt hr (kk _ _ hof) rfl (lim.keeps kk) (codeRec_of (X.keeps kk) hcode) rfl (.of_eq (hbind _ _)) (show ∀ y ∈ exzScope.names, y.2 ≠ .cell by decide) (fun y hy => by
    simp only [List.mem_cons, List.not_mem_nil, or_false] at hy
    rcases hy with rfl | rfl <;> rfl) fun h1 hns hk1 => ?_
  have sz : ((h.push (excTup [.int n tn])).push (excObj C h.objs.size none .none)).objs.size = h.objs.size + 2 := by rw [Heap.size_push, Heap.size_push]
  have none_of : ∀ {a : Addr}, h.objs.size ≤ a → h.get? a = none := fun {a} ha => by
    cases z : h.get? a with
    | none => rfl
    | some o => exact absurd (Nat.lt_of_lt_of_le (Heap.lt_size z) ha) (Nat.lt_irrefl _)
  have e1 : ((h.push (excTup [.int n tn])).push (excObj C h.objs.size none .none)).get? h.objs.size = some (excTup [.int n tn]) := by heap_get
  have e2 : ((h.push (excTup [.int n tn])).push (excObj C h.objs.size none .none)).get? (h.objs.size + 1) = some (excObj C h.objs.size none .none) := by heap_get
  refine exz_body (G := h) (x := h.objs.size + 1) (t := h.objs.size) (rest := [.int n tn]) c ⟨hns, fun b o e => hk1 b o (kk b o e), by rw [sz]; omega⟩ X (fun p hp => ?_) (Nat.succ_ne_self _) gg gs gb bs hf hp har hcd hvs hfile hcc (hcall _).choose_spec rfl rfl hn ht ht1 fun h' t' dx tk k he hd hdx hde => ?_
  · simp only [List.mem_cons, List.not_mem_nil, or_false] at hp
    rcases hp with rfl | rfl
    · exact ⟨hk1 _ _ e2, by rw [sz]; exact Nat.ne_of_lt (Nat.lt_succ_self _), none_of (Nat.le_succ _)⟩
    · exact ⟨hk1 _ _ e1, by rw [sz]; exact Nat.ne_of_lt (Nat.lt_of_lt_of_le (Nat.lt_succ_self _) (Nat.le_succ _)), none_of (Nat.le_refl _)⟩
  · exact ⟨rfl, q h' _ t' dx tk k (Nat.le_succ _) he hd hdx hde⟩
end
end Y
namespace Y
open PySem L2
section
variable {X : Cx} {C f : Addr} {txt : Str} {es : List Expr} {ta : TA} {e : Expr} {p pos : Pos} {k : Nat}
/-- C(e): an exception whose dict says place -/
def tExz (C : Addr) (ta : TA) : St → Hp → XK → Prop := fun σ H Q => ta σ H fun vs H1 => ∃ n : Int, vs = [.int n] ∧ n.natAbs < 1000000 ∧ ∀ d, H1 d = none → Q (.ref C) (some d) (upd H1 d (.xd [("size", .int n)]))
theorem pmk_exz {x : Str} (c : ExcZ X.K X.prog C f txt) (ht : txt.length ≤ 100) (hr : Room (k + 1) X.A) (hg : Gl X x) (hm : X.mg x = some (.ref C)) (gs : X.mg "super" = none) (ha : PA X (e :: es) ta)
    (hdb : (x == ("__debug__" : Str)) = false := by decide) (he : starEach (e :: es) X.env = (false, eval e X.env) :: starEach es X.env := by rfl) (hpl : (backTo pos (starEach es X.env)).any (·.1) = false := by rfl) :
    PMk X (.Call (.Name x p) (e :: es) [] pos) (tExz C ta) := by
  intro pins s σ H Q I h
  refine wpAny_Call_Name_kw (ld_glob I hg hm ?_ hdb)
  refine PySem.W.callWith_K (h₀ := X.base) I.ok.mod.kin c.kC (thn (ha.run pos pins s σ H _ I h) fun us s1 hh => ?_) he hpl
  obtain ⟨vs, H1, I1, r, n, rfl, hn, q⟩ := hh
  refine ⟨I1.kIn, ?_⟩
  obtain ⟨u, rfl, ru⟩ := r.one
  obtain ⟨tn, rfl⟩ := (show ∃ t, u = Value.int n t from ru)
  obtain ⟨t1, t2, t3⟩ := text_fits hn ht
  have kb : ∀ b o, X.base.get? b = some o → s1.heap.get? b = some o := fun b o z => (I1.env0.bs b o z).1
  obtain ⟨mb, hb1, hb2⟩ := I1.ok.mod.blt
  refine exz_call c I1.kIn (I1.ok.mod.nolimit.keeps kb) (I1.ok.mod.glob.keeps kb) gs (hb1.keeps kb) ((hb2 _ (by decide +kernel)).trans (by first | boot_by_name | rfl | kernel_rfl)) (hr.make C _ []).depth t1 t2 t3 fun h' a t' dx tk kp ha' he' hd' hdx hda => ?_
  obtain ⟨G, g1, g2⟩ := restrict h' fun b => decide (b ≠ a)
  have gk : ∀ b, b ≠ a → G.get? b = h'.get? b := fun b hb => g1 b (decide_eq_true hb)
  have ge : G.get? a = none := g2 a (by simp)
  have kG : ∀ b o, s1.heap.get? b = some o → G.get? b = some o := fun b o z => by
    rw [gk b (Nat.ne_of_lt (Nat.lt_of_lt_of_le (Heap.lt_size z) ha'))]
    exact kp b o z
  have nd : H1 dx = none := I1.hok.fresh hdx
  have na : H1 a = none := I1.hok.fresh ha'
  have J : Inv X pins σ (upd H1 dx (.xd [("size", .int n)])) { s1 with heap := G, toks := tk } := by
    refine I1.laid kG hdx ⟨_, hd'.at fun o z => (gk dx hda).trans z, fun y => ?_⟩
    by_cases hy : y = "size"
    · subst hy
      simp only [if_pos rfl]
      rw [lookup_put, if_pos rfl]
      exact ⟨_, rfl⟩
    · rw [lookup_put, if_neg hy, if_neg hy]
      exact True.intro
  refine ⟨a, _, _, { s1 with heap := G, toks := tk }, _, .ref C, some dx, rfl, J, fun b o z => ?_, ge, he', ⟨rfl, rfl⟩, rfl, rfl, by rw [upd_ne hda.symm]; exact na, rfl, I1.bare, raises_own c.exC c.tyC, q dx nd⟩
  by_cases hb : b = a
  · subst hb
    have z' : G.get? b = some o := z
    rw [ge] at z'
    cases z'
  · exact (gk b hb).symm.trans z
end
end Y
set_option Elab.async false
set_option linter.all false
set_option autoImplicit false
set_option maxRecDepth 100000
set_option maxHeartbeats 2000000
/-! As EX1, a constant text, any value in the field thing. -/
namespace Y
open PySem PySem.W PySem.Calls PyProof.Rows Builtin.ObjectAttr
/-- the body of such an __init__ -/
def extBody (txt : Str) (j : Nat) (p0 p1 p2 p3 p4 p5 p6 p7 p8 p9 p10 p11 p12 : Pos) : List Stmt :=
  [.Expr (.Call (.Attribute (.Call (.Name "super" p0) [] [] p1) "__init__" p2) [.Constant (.str txt) j p3] [] p7) p8,
   .Assign [.Attribute (.Name "self" p9) "thing" p10] (.Name "thing" p11) p12]
def extScope : Scope := { kind := .function, names := [("self", .local), ("thing", .local), ("__class__", .free), ("super", .globalImplicit)], isGenerator := false, isCoroutine := false, more := [] }
/-- the class at C, its __init__ at f -/
structure ExcT (K : Frag) (P : Program) (C f : Addr) (txt : Str) : Prop where
  ini : findIn K (.ref C) "__init__" = some (some (.ref f))
  own : excInitIn K C excB "Exception.__new__" = true
  ovr : excOver K C excB = true
  fn : isFn K (.ref f) = true
  def_ : ∃ (oc : Value) (od : Option Addr) (qual : Str) (par : Arguments) (dV kV doc pm ct : Value) (an : Option Addr) (cda cc : Addr) (osl : Array (Option Value)) (j : Nat) (p0 p1 p2 p3 p4 p5 p6 p7 p8 p9 p10 p11 p12 : Pos) (ar : Arg),
    K.lookup f = some ⟨oc, od, .func (ksFn "__init__" qual par (extBody txt j p0 p1 p2 p3 p4 p5 p6 p7 p8 p9 p10 p11 p12) extScope dV kV doc pm an (.ref cda) ct cc), osl⟩ ∧ codeIn K (.ref cda) qual = true ∧
      (∀ u v : Value, bindArgs (ksFn "__init__" qual par (extBody txt j p0 p1 p2 p3 p4 p5 p6 p7 p8 p9 p10 p11 p12) extScope dV kV doc pm an (.ref cda) ct cc) ⟨[u, v], []⟩ = (pure [(("self" : Str), u), (("thing" : Str), v)] : Sem (List (Str × Value)))) ∧
      (par.posonlyargs ++ par.args).head? = some ar ∧ ar.arg = "self" ∧
      (∃ ccl cdd vs ccs file tf, K.lookup cda = some ⟨ccl, cdd, .fields vs, ccs⟩ ∧ vs[2]? = some (.str file tf) ∧ ((P.main.file : Str) == file) = true) ∧
      (∀ L : Addr, ∃ pl : Sem Bool, eval (.Call (.Attribute (.Call (.Name "super" p0) [] [] p1) "__init__" p2) [.Constant (.str txt) j p3] [] p7) (ksEnv qual extScope L f (.ref cda) cc) = (do
      let ov ← attributeBase (.Call (.Name "super" p0) [] [] p1) "__init__" (ksEnv qual extScope L f (.ref cda) cc) (eval (.Call (.Name "super" p0) [] [] p1) (ksEnv qual extScope L f (.ref cda) cc))
      standAt p2.atName
      let (fm, first) ← holding [ov] (getMethod ov "__init__" pl)
      callWith p7 fm first (backTo p7 (starEach [.Constant (.str txt) j p3] (ksEnv qual extScope L f (.ref cda) cc))) [])) ∧
      ∃ cl cld csl, K.lookup cc = some ⟨cl, cld, .cell (some (.ref C)), csl⟩
  sup : ks_superIn K C C "__init__" = some (some (.builtin "Exception.__init__"))
  opq : nsIn K cStatics "thirdparty.any" = some none
  sub : subIn K (.ref C) (.type "Exception") = some true
  slf : mroIn K C (.ref C) = some true
  sa : findIn K (.ref C) "__setattr__" = some (some (.builtin "object.__setattr__"))
  tk : takerIn K C "thing" = some none
  hd : hasDictIn K C = true
  exC : subIn K (.ref C) (.type "BaseException") = some true
  tyC : typeIn K (.ref C) = some (.type "type")
  kC : keepIn K (.ref C) = true
  top : (P.main.scope.names.lookup ("super" : Str)).isSome = false
section
variable {P : Program} {w : World} {K : Frag} {C f : Addr} {txt : Str} {mg mb : Str → Option Value}
theorem ext_store {A : Around} {E : Value → Shared → Prop} {s : Shared} {x t : Addr} {v : Value} {Q : Unit → Shared → Prop} (c : ExcT K P C f txt) (X : K.In s.heap) (hx : s.heap.get? x = some (excObj C t none .none))
    (q : ∀ dx h' tk, (∀ b o, b ≠ x → s.heap.get? b = some o → h'.get? b = some o) → s.heap.objs.size ≤ dx → h'.get? x = some (excObj C t (some dx) .none) → h'.Ns1 dx (fun y => if y = "thing" then some v else none) → Q () { s with heap := h', toks := tk }) :
    wpAny (model P w) A (setAttr (.ref x) "thing" v) Q E s := by
  have I : InstAt s.heap x (excObj C t none .none) C none := ⟨hx, rfl, rfl, trivial⟩
  obtain ⟨cd, hcd, hdd⟩ := any_some c.hd
  have xs : x ≠ s.heap.objs.size := Nat.ne_of_lt (Heap.lt_size hx)
  obtain ⟨h, g, d, tk0, os⟩ := s
  refine set_plain X I c.sa (osa_openX (od := none) PySem.F.store_Exception X I c.ovr c.tk fun b => ?_)
  refine wpAny_bind (wpAny_pure (wpAny_bind (instanceDict_exc hx (looks_clsIn X hcd) hdd ?_)))
  show wpAny _ _ (storeInDict h.objs.size _ _ v) _ _ _
  have hx1 : (h.push (dictOf [] 0)).get? x = some (excObj C t none .none) := Heap.get?_push_of_some _ hx
  refine PySem.HandSPX.store_in_new ⟨_, #[], _, (Heap.get?_update_ne _ _ _ _ xs.symm).trans (Heap.get?_push_at rfl rfl), rfl, (fun e he => absurd he (by simp)), fun _ => rfl⟩ fun h' tk' hn hs => ?_
  refine q h.objs.size h' tk' (fun b o hb ho => ?_) (Nat.le_refl _) ?_ hn
  · exact (hs.2 b (Nat.ne_of_lt (Heap.lt_size ho))).trans ((Heap.get?_update_ne _ _ _ _ hb).trans (Heap.get?_push_of_some _ ho))
  · exact (hs.2 x xs).trans (Heap.get?_update_self _ hx1 rfl)
theorem ext_body {A : Around} {E : Value → Shared → Prop} {s : Shared} {R : Flow → Shared → Prop} {G : Heap} {m : Str → Option Value} {L x t : Addr} {v : Value} {rest : List Value} {oc cl ccl : Value} {od cld cdd : Option Addr} {qual file : Str} {par : Arguments} {dV kV doc pm ct : Value} {an : Option Addr}
    {cda cc : Addr} {osl csl ccs : Array (Option Value)} {vs : Array Value} {tf : Tok} {j : Nat} {p0 p1 p2 p3 p4 p5 p6 p7 p8 p9 p10 p11 p12 : Pos} {ar : Arg} (c : ExcT K P C f txt)
    (F : Fr G L s.heap m) (X : K.In G) (N : News G L s.heap [(x, excObj C t none .none), (t, excTup rest)]) (xt : x ≠ t) (gg : G.Ns mainGlobals mg) (gs : mg "super" = none) (gb : G.Ns builtinsNs mb) (bs : mb "super" = some (.type "super"))
    (hf : K.lookup f = some ⟨oc, od, .func (ksFn "__init__" qual par (extBody txt j p0 p1 p2 p3 p4 p5 p6 p7 p8 p9 p10 p11 p12) extScope dV kV doc pm an (.ref cda) ct cc), osl⟩)
    (hp : (par.posonlyargs ++ par.args).head? = some ar) (har : ar.arg = "self") (hcd : K.lookup cda = some ⟨ccl, cdd, .fields vs, ccs⟩) (hvs : vs[2]? = some (.str file tf)) (hfile : ((P.main.file : Str) == file) = true)
    (hcc : K.lookup cc = some ⟨cl, cld, .cell (some (.ref C)), csl⟩) {pl : Sem Bool} (hcall : eval (.Call (.Attribute (.Call (.Name "super" p0) [] [] p1) "__init__" p2) [.Constant (.str txt) j p3] [] p7) (ksEnv qual extScope L f (.ref cda) cc) = (do
      let ov ← attributeBase (.Call (.Name "super" p0) [] [] p1) "__init__" (ksEnv qual extScope L f (.ref cda) cc) (eval (.Call (.Name "super" p0) [] [] p1) (ksEnv qual extScope L f (.ref cda) cc))
      standAt p2.atName
      let (fm, first) ← holding [ov] (getMethod ov "__init__" pl)
      callWith p7 fm first (backTo p7 (starEach [.Constant (.str txt) j p3] (ksEnv qual extScope L f (.ref cda) cc))) [])) (hm1 : m "self" = some (.ref x)) (hm2 : m "thing" = some (v)) (ht1 : (Str.empty ++ txt).length ≤ sizeLine)
    (q : ∀ h' t' dx tk, (∀ b o, G.get? b = some o → h'.get? b = some o) → h'.get? x = some (excObj C t' (some dx) .none) → h'.Ns1 dx (fun y => if y = "thing" then some (v) else none) → G.objs.size ≤ dx → dx ≠ x → R .next { s with heap := h', toks := tk }) :
    PySem.wpAt (model P w) A (.func (extBody txt j p0 p1 p2 p3 p4 p5 p6 p7 p8 p9 p10 p11 p12) (ksEnv qual extScope L f (.ref cda) cc)) (execs (extBody txt j p0 p1 p2 p3 p4 p5 p6 p7 p8 p9 p10 p11 p12) (ksEnv qual extScope L f (.ref cda) cc)) R E s := by
  have XS : K.In s.heap := X.keeps F.keep
  have I : InstAt s.heap x (excObj C t none .none) C none := ⟨(N (x, excObj C t none .none) (by simp)).1, rfl, rfl, trivial⟩
  obtain ⟨cd, hcdC, -⟩ := any_some c.hd
  refine ks_wpAt_execs_cons (ks_wpAt_Expr_any (ks_wpAt_MethodCall (pl := pl) ?_ hcall))
  obtain ⟨h, g, d, tk0, os⟩ := s
  obtain ⟨oD, hD1, hD2⟩ : ∃ oD, h.get? C = some oD ∧ oD.data = .cls cd := by
    unfold clsIn at hcdC
    split at hcdC
    · rename_i z1 z2 z3 z4 ho
      cases hcdC
      exact ⟨_, XS _ _ ho, rfl⟩
    · cases hcdC
  refine ks_wpAt_super_base (env := ksEnv qual extScope L f (.ref cda) cc) rfl rfl (by decide) rfl (XS _ _ hf) rfl hp rfl (XS _ _ hcd) rfl hvs hfile c.top ?_
  refine ks_loadName_global rfl rfl (loadGlobal_builtin (env := ksEnv qual extScope L f (.ref cda) cc) (gg.keeps F.keep) gs (gb.keeps F.keep) bs ⟨rfl, ?_⟩)
  refine wpAny_loadName_free rfl rfl rfl ⟨_, XS _ _ hcc, rfl⟩ ?_
  rw [har]
  refine wpAny_loadName_local rfl rfl F.ns hm1 ?_
  refine ks_wpAny_isType_cls hD1 hD2 ⟨rfl, ?_⟩
  refine ks_wpAny_call_super hD1 hD2 I.at_ I.cls (fun c' e => ?_) (looks_mroIn XS c.slf) (fun h1 e1 k1 => ?_)
  · cases e
  obtain ⟨F1, N1, l1⟩ := ks_newsPush (s := ⟨h, g, d, tk0, os⟩) F N rfl e1 k1
  have I1 : InstAt h1 x (excObj C t none .none) C none := ⟨(N1 (x, excObj C t none .none) (by simp)).1, rfl, rfl, trivial⟩
  refine kxs_method kxs_Exception (s := ⟨h1, g, d, tk0, os⟩) F1 X N1 (so := h.objs.size) (D := C) (by simp) I1 c.opq c.sup c.sub (by decide) fun q1 h2 F2 N2 l2 => ?_
  refine kxs_callWith1 (i := "Exception.__init__") (x := x) N2 (by simp) (spliced_more (env := ksEnv qual extScope L f (.ref cda) cc) ?_)
  refine Constant_str ?_
  have xq : x < q1 := l2 (x, excObj C t none .none) (by simp)
  have xs : x < h.objs.size := l1 (x, excObj C t none .none) (by simp)
  refine spliced_none ⟨kxs_at N2 (by simp), ?_⟩
  refine kxs_call (x := x) F2 X N2 PySem.F.excBase_Exception c.own (by simp) (.tail (Nat.ne_of_gt xq) (.tail (Nat.ne_of_gt xs) (.head fun p hp => by
    have : p = (t, excTup rest) := by simpa using hp
    rw [this]
    exact fun z => xt z.symm))) (by simp [sizeLine_eq]) fun t3 h3 F3 N3 l3 => ?_
  have hx3 : h3.get? x = some (excObj C t3 none .none) := (N3 (x, excObj C t3 none .none) (by simp)).1
  refine ks_wpAt_execs_cons (ks_wpAt_Assign_Attr (wpAt_of_wpAny (wpAny_Name (wpAny_loadName_local rfl rfl F3.ns hm2 (wpAny_Name (wpAny_loadName_local rfl rfl F3.ns hm1 ?_))))))
  refine ext_store c (X.keeps F3.keep) hx3 fun dx h4 tk k4 hdx hx4 hn4 => ?_
  refine wpAt_of_wpAny (wpAny_execs_nil ?_)
  have gx : G.get? x = none := (N (x, excObj C t none .none) (by simp)).2.2
  have d3 : h3.get? dx = none := by
    cases z : h3.get? dx with
    | none => rfl
    | some o => exact absurd (Nat.lt_of_lt_of_le (Heap.lt_size z) hdx) (Nat.lt_irrefl _)
  refine q h4 t3 dx tk (fun b o e => k4 b o (fun z => by rw [z, gx] at e; cases e) (F3.keep b o e)) hx4 hn4 ?_ (fun z => by rw [z, hx3] at d3; cases d3)
  obtain ⟨oL, _, _, hoL, _⟩ := F3.ns
  exact Nat.le_trans F3.above (Nat.le_trans (Nat.le_of_lt (Heap.lt_size hoL)) hdx)
/-- C(n) -/
theorem ext_call {A : Around} {E : Value → Shared → Prop} {s : Shared} {v : Value} {Q : Value → Shared → Prop} (c : ExcT K P C f txt) (X : K.In s.heap) (lim : s.heap.NoLimit) (gg : s.heap.Ns mainGlobals mg) (gs : mg "super" = none) (gb : s.heap.Ns builtinsNs mb)
    (bs : mb "super" = some (.type "super")) (hr : (A.under (.builtin "type.__call__" ⟨[.ref C, v], []⟩)).depth < recursionLimit) (ht1 : (Str.empty ++ txt).length ≤ sizeLine)
    (q : ∀ h' e t' dx tk, (∀ b o, s.heap.get? b = some o → h'.get? b = some o) → s.heap.objs.size ≤ e → h'.get? e = some (excObj C t' (some dx) .none) → h'.Ns1 dx (fun y => if y = "thing" then some (v) else none) → s.heap.objs.size ≤ dx → dx ≠ e →
      Q (.ref e) { s with heap := h', toks := tk }) : wpAny (model P w) A (call (.ref C) [v]) Q E s := by
  obtain ⟨nm, N', qn, bs', bm, hdct, sn, sub, ab, col, dd, k0, k1, k2, k3, k5, hC, hT⟩ := excInit_of X c.own
  obtain ⟨oc, od, qual, par, dV, kV, doc, pm, ct, an, cda, cc, osl, j, p0, p1, p2, p3, p4, p5, p6, p7, p8, p9, p10, p11, p12, ar, hf, hcode, hbind, hp, har, ⟨ccl, cdd, vs, ccs, file, tf, hcd, hvs, hfile⟩, hcall, cl, cld, csl, hcc⟩ := c.def_
  have hi' : Looks (model P w) s.heap (typeLookup (.ref C) "__init__") (some (.ref f)) := looks_findIn X c.ini
  have hof := X _ _ hf
  have hcf : oc = .type "function" := by
    have := c.fn
    unfold isFn typeIn at this
    simp only [hf] at this
    simpa using this
  obtain ⟨h, g, d, tk0, os⟩ := s
  refine wpAny_call (PX.call_own PySem.F.excBase_Exception hT hC hi' (fun self => exc_bind hof hcf self) (by simp [sizeLine_eq]) ?_)
  have kk : ∀ b o, h.get? b = some o → ((h.push (excTup [v])).push (excObj C h.objs.size none .none)).get? b = some o := fun b o e => Heap.get?_push_of_some _ (Heap.get?_push_of_some _ e)
  refine ks_codeAny_call_defAt hr (kk _ _ hof) rfl (lim.keeps kk) (codeRec_of (X.keeps kk) hcode) rfl (.of_eq (hbind _ _)) (show ∀ y ∈ extScope.names, y.2 ≠ .cell by decide) (fun y hy => by
    simp only [List.mem_cons, List.not_mem_nil, or_false] at hy
    rcases hy with rfl | rfl <;> rfl) fun h1 hns hk1 => ?_
  have sz : ((h.push (excTup [v])).push (excObj C h.objs.size none .none)).objs.size = h.objs.size + 2 := by rw [Heap.size_push, Heap.size_push]
  have none_of : ∀ {a : Addr}, h.objs.size ≤ a → h.get? a = none := fun {a} ha => by
    cases z : h.get? a with
    | none => rfl
    | some o => exact absurd (Nat.lt_of_lt_of_le (Heap.lt_size z) ha) (Nat.lt_irrefl _)
  have e1 : ((h.push (excTup [v])).push (excObj C h.objs.size none .none)).get? h.objs.size = some (excTup [v]) := by heap_get
  have e2 : ((h.push (excTup [v])).push (excObj C h.objs.size none .none)).get? (h.objs.size + 1) = some (excObj C h.objs.size none .none) := by heap_get
  refine ext_body (G := h) (x := h.objs.size + 1) (t := h.objs.size) (rest := [v]) c ⟨hns, fun b o e => hk1 b o (kk b o e), by rw [sz]; omega⟩ X (fun p hp => ?_) (Nat.succ_ne_self _) gg gs gb bs hf hp har hcd hvs hfile hcc (hcall _).choose_spec rfl rfl ht1 fun h' t' dx tk k he hd hdx hde => ?_
  · simp only [List.mem_cons, List.not_mem_nil, or_false] at hp
    rcases hp with rfl | rfl
    · exact ⟨hk1 _ _ e2, by rw [sz]; exact Nat.ne_of_lt (Nat.lt_succ_self _), none_of (Nat.le_succ _)⟩
    · exact ⟨hk1 _ _ e1, by rw [sz]; exact Nat.ne_of_lt (Nat.lt_of_lt_of_le (Nat.lt_succ_self _) (Nat.le_succ _)), none_of (Nat.le_refl _)⟩
  · exact ⟨rfl, q h' _ t' dx tk k (Nat.le_succ _) he hd hdx hde⟩
end
end Y
namespace Y
open PySem L2
section
variable {X : Cx} {C f : Addr} {txt : Str} {es : List Expr} {ta : TA} {e : Expr} {p pos : Pos} {k : Nat}
/-- C(e): an exception whose dict says place -/
def tExt (C : Addr) (ta : TA) : St → Hp → XK → Prop := fun σ H Q => ta σ H fun vs H1 => ∃ y : V, vs = [y] ∧ ∀ d, H1 d = none → Q (.ref C) (some d) (upd H1 d (.xd [("thing", y)]))
theorem pmk_ext {x : Str} (c : ExcT X.K X.prog C f txt) (ht : txt.length ≤ 100) (hr : Room (k + 1) X.A) (hg : Gl X x) (hm : X.mg x = some (.ref C)) (gs : X.mg "super" = none) (ha : PA X (e :: es) ta)
    (hdb : (x == ("__debug__" : Str)) = false := by decide) (he : starEach (e :: es) X.env = (false, eval e X.env) :: starEach es X.env := by rfl) (hpl : (backTo pos (starEach es X.env)).any (·.1) = false := by rfl) :
    PMk X (.Call (.Name x p) (e :: es) [] pos) (tExt C ta) := by
  intro pins s σ H Q I h
  refine wpAny_Call_Name_kw (ld_glob I hg hm ?_ hdb)
  refine PySem.W.callWith_K (h₀ := X.base) I.ok.mod.kin c.kC (thn (ha.run pos pins s σ H _ I h) fun us s1 hh => ?_) he hpl
  obtain ⟨vs, H1, I1, r, y, rfl, q⟩ := hh
  refine ⟨I1.kIn, ?_⟩
  obtain ⟨u, rfl, ru⟩ := r.one
  have t3 : (Str.empty ++ txt).length ≤ sizeLine := by
    have e0 : Str.empty.length = 0 := rfl
    rw [PySem.Str.length_append, sizeLine_eq]; omega
  have kb : ∀ b o, X.base.get? b = some o → s1.heap.get? b = some o := fun b o z => (I1.env0.bs b o z).1
  obtain ⟨mb, hb1, hb2⟩ := I1.ok.mod.blt
  refine ext_call c I1.kIn (I1.ok.mod.nolimit.keeps kb) (I1.ok.mod.glob.keeps kb) gs (hb1.keeps kb) ((hb2 _ (by decide +kernel)).trans (by first | boot_by_name | rfl | kernel_rfl)) (hr.make C _ []).depth t3 fun h' a t' dx tk kp ha' he' hd' hdx hda => ?_
  obtain ⟨G, g1, g2⟩ := restrict h' fun b => decide (b ≠ a)
  have gk : ∀ b, b ≠ a → G.get? b = h'.get? b := fun b hb => g1 b (decide_eq_true hb)
  have ge : G.get? a = none := g2 a (by simp)
  have kG : ∀ b o, s1.heap.get? b = some o → G.get? b = some o := fun b o z => by
    rw [gk b (Nat.ne_of_lt (Nat.lt_of_lt_of_le (Heap.lt_size z) ha'))]
    exact kp b o z
  have nd : H1 dx = none := I1.hok.fresh hdx
  have na : H1 a = none := I1.hok.fresh ha'
  have J : Inv X pins σ (upd H1 dx (.xd [("thing", y)])) { s1 with heap := G, toks := tk } := by
    refine I1.laid kG hdx ⟨_, hd'.at fun o z => (gk dx hda).trans z, fun z0 => ?_⟩
    by_cases hy : z0 = "thing"
    · subst hy
      simp only [if_pos rfl]
      rw [lookup_put, if_pos rfl]
      exact ru
    · rw [lookup_put, if_neg hy, if_neg hy]
      exact True.intro
  refine ⟨a, _, _, { s1 with heap := G, toks := tk }, _, .ref C, some dx, rfl, J, fun b o z => ?_, ge, he', ⟨rfl, rfl⟩, rfl, rfl, by rw [upd_ne hda.symm]; exact na, rfl, I1.bare, raises_own c.exC c.tyC, q dx nd⟩
  by_cases hb : b = a
  · subst hb
    have z' : G.get? b = some o := z
    rw [ge] at z'
    cases z'
  · exact (gk b hb).symm.trans z
end
end Y
set_option Elab.async false
set_option linter.all false
set_option autoImplicit false
set_option maxRecDepth 100000
set_option maxHeartbeats 2000000
/-! As EX1, two fields: thing (a number), word. -/
namespace Y
open PySem PySem.W PySem.Calls PyProof.Rows Builtin.ObjectAttr
/-- the body of such an __init__ -/
def exlBody (txt tx2 : Str) (j j2 : Nat) (p0 p1 p2 p3 p4 p5 p6 p7 p8 p9 p10 p11 p12 p13 p14 p15 p16 p17 p18 p19 : Pos) : List Stmt :=
  [.Expr (.Call (.Attribute (.Call (.Name "super" p0) [] [] p1) "__init__" p2) [.JoinedStr [.Constant (.str txt) j p3, .FormattedValue (.Name "thing" p4) (-1) none p5, .Constant (.str tx2) j2 p13, .FormattedValue (.Name "word" p14) (-1) none p15] p6] [] p7) p8,
   .Assign [.Attribute (.Name "self" p9) "thing" p10] (.Name "thing" p11) p12, .Assign [.Attribute (.Name "self" p16) "word" p17] (.Name "word" p18) p19]
def exlScope : Scope := { kind := .function, names := [("self", .local), ("thing", .local), ("word", .local), ("__class__", .free), ("super", .globalImplicit)], isGenerator := false, isCoroutine := false, more := [] }
/-- the class at C, its __init__ at f -/
structure ExcL (K : Frag) (P : Program) (C f : Addr) (txt tx2 : Str) : Prop where
  ini : findIn K (.ref C) "__init__" = some (some (.ref f))
  own : excInitIn K C excB "Exception.__new__" = true
  ovr : excOver K C excB = true
  fn : isFn K (.ref f) = true
  def_ : ∃ (oc : Value) (od : Option Addr) (qual : Str) (par : Arguments) (dV kV doc pm ct : Value) (an : Option Addr) (cda cc : Addr) (osl : Array (Option Value)) (j j2 : Nat) (p0 p1 p2 p3 p4 p5 p6 p7 p8 p9 p10 p11 p12 p13 p14 p15 p16 p17 p18 p19 : Pos) (ar : Arg),
    K.lookup f = some ⟨oc, od, .func (ksFn "__init__" qual par (exlBody txt tx2 j j2 p0 p1 p2 p3 p4 p5 p6 p7 p8 p9 p10 p11 p12 p13 p14 p15 p16 p17 p18 p19) exlScope dV kV doc pm an (.ref cda) ct cc), osl⟩ ∧ codeIn K (.ref cda) qual = true ∧
      (∀ u v v2 : Value, bindArgs (ksFn "__init__" qual par (exlBody txt tx2 j j2 p0 p1 p2 p3 p4 p5 p6 p7 p8 p9 p10 p11 p12 p13 p14 p15 p16 p17 p18 p19) exlScope dV kV doc pm an (.ref cda) ct cc) ⟨[u, v, v2], []⟩ = (pure [(("self" : Str), u), (("thing" : Str), v), (("word" : Str), v2)] : Sem (List (Str × Value)))) ∧
      (par.posonlyargs ++ par.args).head? = some ar ∧ ar.arg = "self" ∧
      (∃ ccl cdd vs ccs file tf, K.lookup cda = some ⟨ccl, cdd, .fields vs, ccs⟩ ∧ vs[2]? = some (.str file tf) ∧ ((P.main.file : Str) == file) = true) ∧
      (∀ L : Addr, ∃ pl : Sem Bool, eval (.Call (.Attribute (.Call (.Name "super" p0) [] [] p1) "__init__" p2) [.JoinedStr [.Constant (.str txt) j p3, .FormattedValue (.Name "thing" p4) (-1) none p5, .Constant (.str tx2) j2 p13, .FormattedValue (.Name "word" p14) (-1) none p15] p6] [] p7) (ksEnv qual exlScope L f (.ref cda) cc) = (do
      let ov ← attributeBase (.Call (.Name "super" p0) [] [] p1) "__init__" (ksEnv qual exlScope L f (.ref cda) cc) (eval (.Call (.Name "super" p0) [] [] p1) (ksEnv qual exlScope L f (.ref cda) cc))
      standAt p2.atName
      let (fm, first) ← holding [ov] (getMethod ov "__init__" pl)
      callWith p7 fm first (backTo p7 (starEach [.JoinedStr [.Constant (.str txt) j p3, .FormattedValue (.Name "thing" p4) (-1) none p5, .Constant (.str tx2) j2 p13, .FormattedValue (.Name "word" p14) (-1) none p15] p6] (ksEnv qual exlScope L f (.ref cda) cc))) [])) ∧
      ∃ cl cld csl, K.lookup cc = some ⟨cl, cld, .cell (some (.ref C)), csl⟩
  sup : ks_superIn K C C "__init__" = some (some (.builtin "Exception.__init__"))
  opq : nsIn K cStatics "thirdparty.any" = some none
  sub : subIn K (.ref C) (.type "Exception") = some true
  slf : mroIn K C (.ref C) = some true
  sa : findIn K (.ref C) "__setattr__" = some (some (.builtin "object.__setattr__"))
  tk : takerIn K C "thing" = some none
  tk2 : takerIn K C "word" = some none
  hd : hasDictIn K C = true
  exC : subIn K (.ref C) (.type "BaseException") = some true
  tyC : typeIn K (.ref C) = some (.type "type")
  kC : keepIn K (.ref C) = true
  top : (P.main.scope.names.lookup ("super" : Str)).isSome = false
section
variable {P : Program} {w : World} {K : Frag} {C f : Addr} {txt tx2 : Str} {mg mb : Str → Option Value}
theorem exl_store {A : Around} {E : Value → Shared → Prop} {s : Shared} {x t : Addr} {v : Value} {Q : Unit → Shared → Prop} (c : ExcL K P C f txt tx2) (X : K.In s.heap) (hx : s.heap.get? x = some (excObj C t none .none))
    (q : ∀ dx h' tk, (∀ b o, b ≠ x → s.heap.get? b = some o → h'.get? b = some o) → s.heap.objs.size ≤ dx → h'.get? x = some (excObj C t (some dx) .none) → h'.Ns1 dx (fun y => if y = "thing" then some v else none) → Q () { s with heap := h', toks := tk }) :
    wpAny (model P w) A (setAttr (.ref x) "thing" v) Q E s := by
  have I : InstAt s.heap x (excObj C t none .none) C none := ⟨hx, rfl, rfl, trivial⟩
  obtain ⟨cd, hcd, hdd⟩ := any_some c.hd
  have xs : x ≠ s.heap.objs.size := Nat.ne_of_lt (Heap.lt_size hx)
  obtain ⟨h, g, d, tk0, os⟩ := s
  refine set_plain X I c.sa (osa_openX (od := none) PySem.F.store_Exception X I c.ovr c.tk fun b => ?_)
  refine wpAny_bind (wpAny_pure (wpAny_bind (instanceDict_exc hx (looks_clsIn X hcd) hdd ?_)))
  show wpAny _ _ (storeInDict h.objs.size _ _ v) _ _ _
  have hx1 : (h.push (dictOf [] 0)).get? x = some (excObj C t none .none) := Heap.get?_push_of_some _ hx
  refine PySem.HandSPX.store_in_new ⟨_, #[], _, (Heap.get?_update_ne _ _ _ _ xs.symm).trans (Heap.get?_push_at rfl rfl), rfl, (fun e he => absurd he (by simp)), fun _ => rfl⟩ fun h' tk' hn hs => ?_
  refine q h.objs.size h' tk' (fun b o hb ho => ?_) (Nat.le_refl _) ?_ hn
  · exact (hs.2 b (Nat.ne_of_lt (Heap.lt_size ho))).trans ((Heap.get?_update_ne _ _ _ _ hb).trans (Heap.get?_push_of_some _ ho))
  · exact (hs.2 x xs).trans (Heap.get?_update_self _ hx1 rfl)
theorem exl_store2 {A : Around} {E : Value → Shared → Prop} {s : Shared} {x t dx : Addr} {v : Value} {m0 : Str → Option Value} {Q : Unit → Shared → Prop} (c : ExcL K P C f txt tx2) (X : K.In s.heap) (hx : s.heap.get? x = some (excObj C t (some dx) .none)) (hns : s.heap.Ns1 dx m0) (hw : Within m0 ["thing"])
    (q : ∀ h' tk, (∀ b o, b ≠ dx → s.heap.get? b = some o → h'.get? b = some o) → h'.Ns1 dx (fun y => if y = "word" then some v else m0 y) → Q () { s with heap := h', toks := tk }) :
    wpAny (model P w) A (setAttr (.ref x) "word" v) Q E s := by
  obtain ⟨oD, esD, epD, hoD, hdD, _⟩ := hns.count hw
  have I : InstAt s.heap x (excObj C t (some dx) .none) C (some oD) := ⟨hx, rfl, rfl, hoD⟩
  obtain ⟨cd, hcd, hdd⟩ := any_some c.hd
  obtain ⟨h, g, d, tk0, os⟩ := s
  refine set_plain X I c.sa (osa_openX (od := some oD) PySem.F.store_Exception X I c.ovr c.tk2 fun b => ?_)
  have hcls : W.Looks (model P w) h (classData C) cd := W.looks_clsIn X hcd
  have hz : [("thing" : Str)].length ≤ 1000 := by decide
  dsimp only at hns hx
  obtain ⟨nm, bs, mro, ns, qn, hd, sn, sb, ab, col, del⟩ := cd
  dsimp only at hdd
  subst hdd
  dsimp only
  unfold storeInOwnDict ownDictForStores
  repeat (first | with_reducible refine PySem.OEX.store_in_old hns hw hz ?_ | with_reducible refine wpAny_loadPart_at hx ?_ | with_reducible refine hcls.at ?_ | wp_step)
  intro h' tk' hn' hs
  exact q h' tk' (fun b o hb ho => (hs.2 b hb).trans ho) hn'
theorem exl_body {A : Around} {E : Value → Shared → Prop} {s : Shared} {R : Flow → Shared → Prop} {G : Heap} {m : Str → Option Value} {L x t : Addr} {n : Int} {n2 : Str} {tn tn2 : Tok} {rest : List Value} {oc cl ccl : Value} {od cld cdd : Option Addr} {qual file : Str} {par : Arguments} {dV kV doc pm ct : Value} {an : Option Addr}
    {cda cc : Addr} {osl csl ccs : Array (Option Value)} {vs : Array Value} {tf : Tok} {j j2 : Nat} {p0 p1 p2 p3 p4 p5 p6 p7 p8 p9 p10 p11 p12 p13 p14 p15 p16 p17 p18 p19 : Pos} {ar : Arg} (c : ExcL K P C f txt tx2)
    (F : Fr G L s.heap m) (X : K.In G) (N : News G L s.heap [(x, excObj C t none .none), (t, excTup rest)]) (xt : x ≠ t) (gg : G.Ns mainGlobals mg) (gs : mg "super" = none) (gb : G.Ns builtinsNs mb) (bs : mb "super" = some (.type "super"))
    (hf : K.lookup f = some ⟨oc, od, .func (ksFn "__init__" qual par (exlBody txt tx2 j j2 p0 p1 p2 p3 p4 p5 p6 p7 p8 p9 p10 p11 p12 p13 p14 p15 p16 p17 p18 p19) exlScope dV kV doc pm an (.ref cda) ct cc), osl⟩)
    (hp : (par.posonlyargs ++ par.args).head? = some ar) (har : ar.arg = "self") (hcd : K.lookup cda = some ⟨ccl, cdd, .fields vs, ccs⟩) (hvs : vs[2]? = some (.str file tf)) (hfile : ((P.main.file : Str) == file) = true)
    (hcc : K.lookup cc = some ⟨cl, cld, .cell (some (.ref C)), csl⟩) {pl : Sem Bool} (hcall : eval (.Call (.Attribute (.Call (.Name "super" p0) [] [] p1) "__init__" p2) [.JoinedStr [.Constant (.str txt) j p3, .FormattedValue (.Name "thing" p4) (-1) none p5, .Constant (.str tx2) j2 p13, .FormattedValue (.Name "word" p14) (-1) none p15] p6] [] p7) (ksEnv qual exlScope L f (.ref cda) cc) = (do
      let ov ← attributeBase (.Call (.Name "super" p0) [] [] p1) "__init__" (ksEnv qual exlScope L f (.ref cda) cc) (eval (.Call (.Name "super" p0) [] [] p1) (ksEnv qual exlScope L f (.ref cda) cc))
      standAt p2.atName
      let (fm, first) ← holding [ov] (getMethod ov "__init__" pl)
      callWith p7 fm first (backTo p7 (starEach [.JoinedStr [.Constant (.str txt) j p3, .FormattedValue (.Name "thing" p4) (-1) none p5, .Constant (.str tx2) j2 p13, .FormattedValue (.Name "word" p14) (-1) none p15] p6] (ksEnv qual exlScope L f (.ref cda) cc))) [])) (hm1 : m "self" = some (.ref x)) (hm2 : m "thing" = some (.int n tn)) (hm3 : m "word" = some (.str n2 tn2)) (hn : n.natAbs.log2 < 1920) (ht : (Str.empty ++ txt ++ (toString n : Str)).length ≤ sizeLine) (ht1 : (Str.empty ++ txt).length ≤ sizeLine) (ht2 : (Str.empty ++ txt ++ (toString n : Str) ++ tx2).length ≤ sizeLine) (ht3 : (Str.empty ++ txt ++ (toString n : Str) ++ tx2 ++ n2).length ≤ sizeLine)
    (q : ∀ h' t' dx tk, (∀ b o, G.get? b = some o → h'.get? b = some o) → h'.get? x = some (excObj C t' (some dx) .none) → h'.Ns1 dx (fun y => if y = "word" then some (.str n2 tn2) else if y = "thing" then some (.int n tn) else none) → G.objs.size ≤ dx → dx ≠ x → R .next { s with heap := h', toks := tk }) :
    PySem.wpAt (model P w) A (.func (exlBody txt tx2 j j2 p0 p1 p2 p3 p4 p5 p6 p7 p8 p9 p10 p11 p12 p13 p14 p15 p16 p17 p18 p19) (ksEnv qual exlScope L f (.ref cda) cc)) (execs (exlBody txt tx2 j j2 p0 p1 p2 p3 p4 p5 p6 p7 p8 p9 p10 p11 p12 p13 p14 p15 p16 p17 p18 p19) (ksEnv qual exlScope L f (.ref cda) cc)) R E s := by
  have XS : K.In s.heap := X.keeps F.keep
  have hnl : n2.length ≤ sizeLine := by
    have := ht3
    rw [PySem.Str.length_append] at this
    omega
  have I : InstAt s.heap x (excObj C t none .none) C none := ⟨(N (x, excObj C t none .none) (by simp)).1, rfl, rfl, trivial⟩
  obtain ⟨cd, hcdC, -⟩ := any_some c.hd
  refine ks_wpAt_execs_cons (ks_wpAt_Expr_any (ks_wpAt_MethodCall (pl := pl) ?_ hcall))
  obtain ⟨h, g, d, tk0, os⟩ := s
  obtain ⟨oD, hD1, hD2⟩ : ∃ oD, h.get? C = some oD ∧ oD.data = .cls cd := by
    unfold clsIn at hcdC
    split at hcdC
    · rename_i z1 z2 z3 z4 ho
      cases hcdC
      exact ⟨_, XS _ _ ho, rfl⟩
    · cases hcdC
  refine ks_wpAt_super_base (env := ksEnv qual exlScope L f (.ref cda) cc) rfl rfl (by decide) rfl (XS _ _ hf) rfl hp rfl (XS _ _ hcd) rfl hvs hfile c.top ?_
  refine ks_loadName_global rfl rfl (loadGlobal_builtin (env := ksEnv qual exlScope L f (.ref cda) cc) (gg.keeps F.keep) gs (gb.keeps F.keep) bs ⟨rfl, ?_⟩)
  refine wpAny_loadName_free rfl rfl rfl ⟨_, XS _ _ hcc, rfl⟩ ?_
  rw [har]
  refine wpAny_loadName_local rfl rfl F.ns hm1 ?_
  refine ks_wpAny_isType_cls hD1 hD2 ⟨rfl, ?_⟩
  refine ks_wpAny_call_super hD1 hD2 I.at_ I.cls (fun c' e => ?_) (looks_mroIn XS c.slf) (fun h1 e1 k1 => ?_)
  · cases e
  obtain ⟨F1, N1, l1⟩ := ks_newsPush (s := ⟨h, g, d, tk0, os⟩) F N rfl e1 k1
  have I1 : InstAt h1 x (excObj C t none .none) C none := ⟨(N1 (x, excObj C t none .none) (by simp)).1, rfl, rfl, trivial⟩
  refine kxs_method kxs_Exception (s := ⟨h1, g, d, tk0, os⟩) F1 X N1 (so := h.objs.size) (D := C) (by simp) I1 c.opq c.sup c.sub (by decide) fun q1 h2 F2 N2 l2 => ?_
  refine kxs_callWith1 (i := "Exception.__init__") (x := x) N2 (by simp) (spliced_more (env := ksEnv qual exlScope L f (.ref cda) cc) ?_)
  refine wpAny_JoinedStr ?_
  show Joins _ _ _ [eval _ _, eval _ _, eval _ _, eval _ _] _ _ _
  refine Constant_str ⟨txt, _, rfl, ht1, ?_⟩
  refine wpAny_FormattedValue_plain (wpAny_Name (wpAny_loadName_local rfl rfl F2.ns hm2 (wpAny_formatField_int hn ⟨_, _, rfl, ht, ?_⟩)))
  refine Constant_str ⟨tx2, _, rfl, ht2, ?_⟩
  refine wpAny_FormattedValue_plain (wpAny_Name (wpAny_loadName_local rfl rfl F2.ns hm3 (wpAny_formatField_str (hx := hnl) ⟨_, _, rfl, ht3, ?_⟩ ⟨_, _, rfl, ht3, ?_⟩)))
  all_goals (
    refine ⟨ht3, ?_⟩
    have xq : x < q1 := l2 (x, excObj C t none .none) (by simp)
    have xs : x < h.objs.size := l1 (x, excObj C t none .none) (by simp)
    refine spliced_none ⟨kxs_at N2 (by simp), ?_⟩
    refine kxs_call (x := x) F2 X N2 PySem.F.excBase_Exception c.own (by simp) (.tail (Nat.ne_of_gt xq) (.tail (Nat.ne_of_gt xs) (.head fun p hp => by
      have : p = (t, excTup rest) := by simpa using hp
      rw [this]
      exact fun z => xt z.symm))) (by simp [sizeLine_eq]) fun t3 h3 F3 N3 l3 => ?_
    have hx3 : h3.get? x = some (excObj C t3 none .none) := (N3 (x, excObj C t3 none .none) (by simp)).1
    refine ks_wpAt_execs_cons (ks_wpAt_Assign_Attr (wpAt_of_wpAny (wpAny_Name (wpAny_loadName_local rfl rfl F3.ns hm2 (wpAny_Name (wpAny_loadName_local rfl rfl F3.ns hm1 ?_))))))
    refine exl_store c (X.keeps F3.keep) hx3 fun dx h4 tk k4 hdx hx4 hn4 => ?_
    have gx : G.get? x = none := (N (x, excObj C t none .none) (by simp)).2.2
    have d3 : h3.get? dx = none := by
      cases z : h3.get? dx with
      | none => rfl
      | some o => exact absurd (Nat.lt_of_lt_of_le (Heap.lt_size z) hdx) (Nat.lt_irrefl _)
    have dxx : dx ≠ x := fun z => by rw [z, hx3] at d3; cases d3
    have k34 : ∀ b o, G.get? b = some o → h4.get? b = some o := fun b o e => k4 b o (fun z => by rw [z, gx] at e; cases e) (F3.keep b o e)
    obtain ⟨oL, mL, cL, hoL, rL⟩ := id F3.ns
    have lx : L ≠ x := fun z => by rw [z, hx3] at hoL; cases hoL; cases rL.1
    have F4 : h4.Ns L m := ⟨oL, mL, cL, k4 L oL lx hoL, rL⟩
    refine ks_wpAt_execs_cons (ks_wpAt_Assign_Attr (wpAt_of_wpAny (wpAny_Name (wpAny_loadName_local rfl rfl F4 hm3 (wpAny_Name (wpAny_loadName_local rfl rfl F4 hm1 ?_))))))
    refine exl_store2 c (X.keeps k34) hx4 hn4 (fun y hy => ?_) fun h5 tk5 k5 hn5 => ?_
    · by_cases z : y = "thing"
      · rw [z]; exact List.mem_singleton_self _
      · exact absurd (if_neg z) hy
    refine wpAt_of_wpAny (wpAny_execs_nil ?_)
    have gdx : G.get? dx = none := by
      cases z : G.get? dx with
      | none => rfl
      | some o => rw [F3.keep _ _ z] at d3; cases d3
    refine q h5 t3 dx tk5 (fun b o e => k5 b o (fun z => by rw [z, gdx] at e; cases e) (k34 b o e)) (k5 x _ dxx.symm hx4) hn5 ?_ dxx
    exact Nat.le_trans F3.above (Nat.le_trans (Nat.le_of_lt (Heap.lt_size hoL)) hdx))
/-- C(n) -/
theorem exl_call {A : Around} {E : Value → Shared → Prop} {s : Shared} {n : Int} {n2 : Str} {tn tn2 : Tok} {Q : Value → Shared → Prop} (c : ExcL K P C f txt tx2) (X : K.In s.heap) (lim : s.heap.NoLimit) (gg : s.heap.Ns mainGlobals mg) (gs : mg "super" = none) (gb : s.heap.Ns builtinsNs mb)
    (bs : mb "super" = some (.type "super")) (hr : (A.under (.builtin "type.__call__" ⟨[.ref C, .int n tn, .str n2 tn2], []⟩)).depth < recursionLimit) (hn : n.natAbs.log2 < 1920) (ht : (Str.empty ++ txt ++ (toString n : Str)).length ≤ sizeLine) (ht1 : (Str.empty ++ txt).length ≤ sizeLine) (ht2 : (Str.empty ++ txt ++ (toString n : Str) ++ tx2).length ≤ sizeLine) (ht3 : (Str.empty ++ txt ++ (toString n : Str) ++ tx2 ++ n2).length ≤ sizeLine)
    (q : ∀ h' e t' dx tk, (∀ b o, s.heap.get? b = some o → h'.get? b = some o) → s.heap.objs.size ≤ e → h'.get? e = some (excObj C t' (some dx) .none) → h'.Ns1 dx (fun y => if y = "word" then some (.str n2 tn2) else if y = "thing" then some (.int n tn) else none) → s.heap.objs.size ≤ dx → dx ≠ e →
      Q (.ref e) { s with heap := h', toks := tk }) : wpAny (model P w) A (call (.ref C) [.int n tn, .str n2 tn2]) Q E s := by
  obtain ⟨nm, N', qn, bs', bm, hdct, sn, sub, ab, col, dd, k0, k1, k2, k3, k5, hC, hT⟩ := excInit_of X c.own
  obtain ⟨oc, od, qual, par, dV, kV, doc, pm, ct, an, cda, cc, osl, j, j2, p0, p1, p2, p3, p4, p5, p6, p7, p8, p9, p10, p11, p12, p13, p14, p15, p16, p17, p18, p19, ar, hf, hcode, hbind, hp, har, ⟨ccl, cdd, vs, ccs, file, tf, hcd, hvs, hfile⟩, hcall, cl, cld, csl, hcc⟩ := c.def_
  have hi' : Looks (model P w) s.heap (typeLookup (.ref C) "__init__") (some (.ref f)) := looks_findIn X c.ini
  have hof := X _ _ hf
  have hcf : oc = .type "function" := by
    have := c.fn
    unfold isFn typeIn at this
    simp only [hf] at this
    simpa using this
  obtain ⟨h, g, d, tk0, os⟩ := s
  refine wpAny_call (PX.call_own PySem.F.excBase_Exception hT hC hi' (fun self => exc_bind hof hcf self) (by simp [sizeLine_eq]) ?_)
  have kk : ∀ b o, h.get? b = some o → ((h.push (excTup [.int n tn, .str n2 tn2])).push (excObj C h.objs.size none .none)).get? b = some o := fun b o e => Heap.get?_push_of_some _ (Heap.get?_push_of_some _ e)
  refine ks_codeAny_call_defAt hr (kk _ _ hof) rfl (lim.keeps kk) (codeRec_of (X.keeps kk) hcode) rfl (.of_eq (hbind _ _ _)) (show ∀ y ∈ exlScope.names, y.2 ≠ .cell by decide) (fun y hy => by
    simp only [List.mem_cons, List.not_mem_nil, or_false] at hy
    rcases hy with rfl | rfl | rfl <;> rfl) fun h1 hns hk1 => ?_
  have sz : ((h.push (excTup [.int n tn, .str n2 tn2])).push (excObj C h.objs.size none .none)).objs.size = h.objs.size + 2 := by rw [Heap.size_push, Heap.size_push]
  have none_of : ∀ {a : Addr}, h.objs.size ≤ a → h.get? a = none := fun {a} ha => by
    cases z : h.get? a with
    | none => rfl
    | some o => exact absurd (Nat.lt_of_lt_of_le (Heap.lt_size z) ha) (Nat.lt_irrefl _)
  have e1 : ((h.push (excTup [.int n tn, .str n2 tn2])).push (excObj C h.objs.size none .none)).get? h.objs.size = some (excTup [.int n tn, .str n2 tn2]) := by heap_get
  have e2 : ((h.push (excTup [.int n tn, .str n2 tn2])).push (excObj C h.objs.size none .none)).get? (h.objs.size + 1) = some (excObj C h.objs.size none .none) := by heap_get
  refine exl_body (G := h) (x := h.objs.size + 1) (t := h.objs.size) (rest := [.int n tn, .str n2 tn2]) c ⟨hns, fun b o e => hk1 b o (kk b o e), by rw [sz]; omega⟩ X (fun p hp => ?_) (Nat.succ_ne_self _) gg gs gb bs hf hp har hcd hvs hfile hcc (hcall _).choose_spec rfl rfl rfl hn ht ht1 ht2 ht3 fun h' t' dx tk k he hd hdx hde => ?_
  · simp only [List.mem_cons, List.not_mem_nil, or_false] at hp
    rcases hp with rfl | rfl
    · exact ⟨hk1 _ _ e2, by rw [sz]; exact Nat.ne_of_lt (Nat.lt_succ_self _), none_of (Nat.le_succ _)⟩
    · exact ⟨hk1 _ _ e1, by rw [sz]; exact Nat.ne_of_lt (Nat.lt_of_lt_of_le (Nat.lt_succ_self _) (Nat.le_succ _)), none_of (Nat.le_refl _)⟩
  · exact ⟨rfl, q h' _ t' dx tk k (Nat.le_succ _) he hd hdx hde⟩
end
end Y
namespace Y
open PySem L2
section
variable {X : Cx} {C f : Addr} {txt tx2 : Str} {es : List Expr} {ta : TA} {e : Expr} {p pos : Pos} {k : Nat}
/-- C(e): an exception whose dict says place -/
def tExl (C : Addr) (ta : TA) : St → Hp → XK → Prop := fun σ H Q => ta σ H fun vs H1 => ∃ (n : Int) (n2 : Str), vs = [.int n, .str n2] ∧ n.natAbs < 1000000 ∧ n2.length ≤ 100 ∧ ∀ d, H1 d = none → Q (.ref C) (some d) (upd H1 d (.xd [("word", .str n2), ("thing", .int n)]))
theorem text_fit2 {n : Int} {n2 txt tx2 : Str} (hn : n.natAbs < 1000000) (ht : txt.length ≤ 100) (h2 : tx2.length ≤ 100) (h3 : n2.length ≤ 100) : (Str.empty ++ txt ++ (toString n : Str) ++ tx2).length ≤ sizeLine ∧ (Str.empty ++ txt ++ (toString n : Str) ++ tx2 ++ n2).length ≤ sizeLine := by
  have e := int_text_length_le10 (k := 6) (a := n) (by decide) hn
  have e0 : Str.empty.length = 0 := rfl
  constructor
  · rw [PySem.Str.length_append, PySem.Str.length_append, PySem.Str.length_append, ofString_length, sizeLine_eq]; omega
  · rw [PySem.Str.length_append, PySem.Str.length_append, PySem.Str.length_append, PySem.Str.length_append, ofString_length, sizeLine_eq]; omega
theorem pmk_exl {x : Str} (c : ExcL X.K X.prog C f txt tx2) (ht : txt.length ≤ 100) (ht' : tx2.length ≤ 100) (hr : Room (k + 1) X.A) (hg : Gl X x) (hm : X.mg x = some (.ref C)) (gs : X.mg "super" = none) (ha : PA X (e :: es) ta)
    (hdb : (x == ("__debug__" : Str)) = false := by decide) (he : starEach (e :: es) X.env = (false, eval e X.env) :: starEach es X.env := by rfl) (hpl : (backTo pos (starEach es X.env)).any (·.1) = false := by rfl) :
    PMk X (.Call (.Name x p) (e :: es) [] pos) (tExl C ta) := by
  intro pins s σ H Q I h
  refine wpAny_Call_Name_kw (ld_glob I hg hm ?_ hdb)
  refine PySem.W.callWith_K (h₀ := X.base) I.ok.mod.kin c.kC (thn (ha.run pos pins s σ H _ I h) fun us s1 hh => ?_) he hpl
  obtain ⟨vs, H1, I1, r, n, n2, rfl, hn, hn2, q⟩ := hh
  refine ⟨I1.kIn, ?_⟩
  obtain ⟨u, us', rfl, ru, r'⟩ : ∃ u us', us = u :: us' ∧ RelV (.int n) u ∧ Vals [.str n2] us' := by
    cases r with
    | cons a b => exact ⟨_, _, rfl, a, b⟩
  obtain ⟨u2, rfl, ru2⟩ := r'.one
  obtain ⟨tn, rfl⟩ := (show ∃ t, u = Value.int n t from ru)
  obtain ⟨tn2, rfl⟩ := (show ∃ t, u2 = Value.str n2 t from ru2)
  obtain ⟨t1, t2, t3⟩ := text_fits hn ht
  obtain ⟨t4, t5⟩ := text_fit2 (n2 := n2) hn ht ht' hn2
  have kb : ∀ b o, X.base.get? b = some o → s1.heap.get? b = some o := fun b o z => (I1.env0.bs b o z).1
  obtain ⟨mb, hb1, hb2⟩ := I1.ok.mod.blt
  refine exl_call c I1.kIn (I1.ok.mod.nolimit.keeps kb) (I1.ok.mod.glob.keeps kb) gs (hb1.keeps kb) ((hb2 _ (by decide +kernel)).trans (by first | boot_by_name | rfl | kernel_rfl)) (hr.make C _ []).depth t1 t2 t3 t4 t5 fun h' a t' dx tk kp ha' he' hd' hdx hda => ?_
  obtain ⟨G, g1, g2⟩ := restrict h' fun b => decide (b ≠ a)
  have gk : ∀ b, b ≠ a → G.get? b = h'.get? b := fun b hb => g1 b (decide_eq_true hb)
  have ge : G.get? a = none := g2 a (by simp)
  have kG : ∀ b o, s1.heap.get? b = some o → G.get? b = some o := fun b o z => by
    rw [gk b (Nat.ne_of_lt (Nat.lt_of_lt_of_le (Heap.lt_size z) ha'))]
    exact kp b o z
  have nd : H1 dx = none := I1.hok.fresh hdx
  have na : H1 a = none := I1.hok.fresh ha'
  have J : Inv X pins σ (upd H1 dx (.xd [("word", .str n2), ("thing", .int n)])) { s1 with heap := G, toks := tk } := by
    refine I1.laid kG hdx ⟨_, hd'.at fun o z => (gk dx hda).trans z, fun y => ?_⟩
    by_cases hy : y = "word"
    · subst hy
      simp only [if_pos rfl]
      rw [lookup_put, if_pos rfl]
      exact ⟨_, rfl⟩
    · rw [lookup_put, if_neg hy, if_neg hy]
      by_cases hy2 : y = "thing"
      · subst hy2
        simp only [if_pos rfl]
        rw [lookup_put, if_pos rfl]
        exact ⟨_, rfl⟩
      · rw [lookup_put, if_neg hy2, if_neg hy2]
        exact True.intro
  refine ⟨a, _, _, { s1 with heap := G, toks := tk }, _, .ref C, some dx, rfl, J, fun b o z => ?_, ge, he', ⟨rfl, rfl⟩, rfl, rfl, by rw [upd_ne hda.symm]; exact na, rfl, I1.bare, raises_own c.exC c.tyC, q dx nd⟩
  by_cases hb : b = a
  · subst hb
    have z' : G.get? b = some o := z
    rw [ge] at z'
    cases z'
  · exact (gk b hb).symm.trans z
end
end Y
set_option Elab.async false
set_option linter.all false
set_option autoImplicit false
set_option maxRecDepth 100000
set_option maxHeartbeats 4000000
namespace Y
open PySem L2
def topS (i : Nat) : Stmt := PySem.Challenge.pw_shortbynarrow_k06_families_put_in.main.body.getD i (.Pass ⟨0, 0, 0, 0⟩)
/-- the built-in names are the built-ins' -/
structure Txt (mg : Str → Option Value) : Prop where
  len : mg "len" = none
  sum : mg "sum" = none
  all : mg "all" = none
  any : mg "any" = none
  sorted : mg "sorted" = none
  tuple : mg "tuple" = none
  list : mg "list" = none
  int : mg "int" = none
  bool : mg "bool" = none
  range : mg "range" = none
  isinstance : mg "isinstance" = none
  min : mg "min" = none
  max : mg "max" = none
/-- a set of things as it is held: small numbers, few -/
structure Sm (l : List Nat) : Prop where
  lt : ∀ x ∈ l, x < 1000
  len : l.length < 20000
theorem at_c {α : Type} {c : α → D} {E : List Slot} {i : Nat} {d : D} {l : List α} (h : E[i]? = some (.val d)) (e : d = .tup (l.map c)) : E[i]? = some (.val (.tup (l.map c))) := by rw [h, e]
section
variable {P : Program} {w : World} {K : PySem.W.Frag} {mg : Str → Option Value} {base : Heap}
/-! mask_of -/
abbrev s_mask_of : Stmt := topS 19
abbrev N_mask_of : List Str := ["things", "e"]
theorem sc_mask_of : FnScope N_mask_of ["things"] (defScope s_mask_of) := ⟨rfl, rfl, rfl, by decide +kernel, rfl, by decide +kernel, by decide +kernel⟩
def p_mask_of (ds : List D) (d : D) : Prop := ∃ l : List Nat, Sm l ∧ ds = [tD l] ∧ d = iD (KM.maskOf l)
theorem sum_cast : ∀ (l : List Nat), ((l.map fun (e : Nat) => ((2 ^ e : Nat) : Int))).sum = ((KM.maskOf l : Nat) : Int)
  | [] => rfl
  | a :: l => by
    have := sum_cast l
    rw [List.map_cons, List.sum_cons, this]
    simp [KM.maskOf]
theorem ok_mask_of {f : Addr} {fd : FuncData} (F : Fun K "mask_of" "mask_of" s_mask_of f fd) (T : Txt mg) : FnOk P w K mg base CX0 1 f fd ["things"] (Pure K p_mask_of) := by
  refine pure_ok F sc_mask_of (fun ds d h => by obtain ⟨l, _, rfl, _⟩ := h; rfl) (by decide) fun cdv A outer s H E hr => ?_
  refine ⟨_, (pss_one (ps_ret (pe_callB (cr_sum rfl) (by rfl) T.sum (by decide +kernel) (pa_cons (pe_lc (own := [("e", 1)]) (g := gName 1) rfl sc_mask_of.nd (pi_tup (pv 0)) (blkOk_by (N := N_mask_of) (sc := defScope s_mask_of) (by decide +kernel)) (fun _ _ _ _ _ => pg_name (i := 1) sc_mask_of.nd rfl (Or.inl rfl)) (fun _ _ _ _ _ => pts_nil) (fun _ _ _ _ _ => (pe_op op_shlW pe_int (pv 1)))) pa_nil)))), ?_⟩
  rintro ds d ⟨l, hl, rfl, rfl⟩ De o
  refine sd_ret (d := iD (KM.maskOf l)) (ep_cb (ea_cons (EF.p (ef_lcT1 (c := iD) (ts := l) (fun n => iD (2 ^ n)) (ep_var (at_c rfl (tD_eq l))) (fun _ _ => rfl) (by have := hl.len; omega) (fun n hn => ep_op ep_int (ep_var rfl) (r2_shl1 (by have := hl.lt n hn; omega))) (fun _ _ => rfl))) ea_nil) ?_) o.rt
  have h := rc_sum (K := K) (ns := l.map fun (e : Nat) => ((2 ^ e : Nat) : Int))
  rw [List.map_map, sum_cast] at h
  exact h
/-! things_of -/
abbrev s_things_of : Stmt := topS 20
abbrev N_things_of : List Str := ["mask", "e"]
theorem sc_things_of : FnScope N_things_of ["mask"] (defScope s_things_of) := ⟨rfl, rfl, rfl, by decide +kernel, rfl, by decide +kernel, by decide +kernel⟩
def p_things_of (ds : List D) (d : D) : Prop := ∃ m : Nat, m < 2 ^ 1000 ∧ ds = [iD m] ∧ d = tD (KM.thingsOf m)
theorem bitLen_lt {m : Nat} (h : m < 2 ^ 1000) : KM.bitLen m ≤ 1000 := by
  unfold KM.bitLen
  split
  · omega
  · rename_i h0
    have := (Nat.log2_lt h0).mpr h
    omega
theorem bit_test (m e : Nat) : ((m >>> e) &&& 1 == 1) = m.testBit e := by
  rw [Nat.testBit_eq_decide_div_mod_eq, Nat.and_one_is_mod, Nat.shiftRight_eq_div_pow]
  rfl
theorem ok_things_of {f : Addr} {fd : FuncData} (F : Fun K "things_of" "things_of" s_things_of f fd) (T : Txt mg) : FnOk P w K mg base CX0 1 f fd ["mask"] (Pure K p_things_of) := by
  refine pure_ok F sc_things_of (fun ds d h => by obtain ⟨l, _, rfl, _⟩ := h; rfl) (by decide) fun cdv A outer s H E hr => ?_
  refine ⟨_, (pss_one (ps_ret (pe_callTy call_tuple_of (by rfl) T.tuple (by decide +kernel) (pa_cons (pe_lc (own := [("e", 1)]) (g := gName 1) rfl sc_things_of.nd (pi_range1 (by rfl) T.range (pa_cons (pe_bits (pv 0)) pa_nil)) (blkOk_by (N := N_things_of) (sc := defScope s_things_of) (by decide +kernel)) (fun _ _ _ _ _ => pg_name (i := 1) sc_things_of.nd rfl (Or.inl rfl)) (fun _ _ _ _ _ => (pts_one (pt_cmpR op_eq (pe_op op_and (pe_op op_shr (pv 0) (pv 1)) pe_int) pe_int (nomark _)))) (fun _ _ _ _ _ => (pv 1))) pa_nil)))), ?_⟩
  rintro ds d ⟨m, hm, rfl, rfl⟩ De o
  have hb := bitLen_lt hm
  refine sd_ret (ep_is (ep_cb (ea_cons (EF.p (ef_lcR (fun e => m.testBit e) iD (ea_cons (ep_bits (ep_var rfl)) ea_nil) (by omega)
    (fun e _ => et_is (et_test (ep_op (ep_op (ep_op (ep_var rfl) (ep_var rfl) r2_shr) ep_n1 r2_and) ep_n1 r2_eqN)) (bit_test m e)) (fun e _ _ => ep_var rfl) (fun _ _ _ => rfl))) ea_nil) rc_tupleL) ?_) o.rt
  rw [tD_eq]
  rfl
/-! least_masks -/
abbrev s_least_masks : Stmt := topS 21
abbrev N_least_masks : List Str := ["masks", "kept", "mask", "one"]
theorem sc_least_masks : FnScope N_least_masks ["masks"] (defScope s_least_masks) := ⟨rfl, rfl, rfl, by decide +kernel, rfl, by decide +kernel, by decide +kernel⟩
def p_least_masks (ds : List D) (l : List D) : Prop := ∃ ms : List Nat, ms.length < 20000 ∧ ds = [nD ms] ∧ l = (KM.leastMasks ms).map iD
theorem leastStep_len (k : List Nat) (m : Nat) : (KM.leastStep k m).length ≤ k.length + 1 := by
  unfold KM.leastStep
  split <;> simp
theorem fold_len {α β : Type} (f : List β → α → List β) (n : Nat) (hf : ∀ k m, (f k m).length ≤ k.length + n) : ∀ (l : List α) (k : List β), (l.foldl f k).length ≤ k.length + n * l.length
  | [], k => by simp
  | m :: l, k => by
    have h1 := fold_len f n hf l (f k m)
    have h2 := hf k m
    rw [List.foldl_cons, List.length_cons, Nat.mul_succ]
    omega
theorem ok_least_masks {f : Addr} {fd : FuncData} (F : Fun K "least_masks" "least_masks" s_least_masks f fd) (T : Txt mg) : FnOk P w K mg base CX0 1 f fd ["masks"] (Fresh K p_least_masks) := by
  refine fresh_ok F sc_least_masks (fun ds d h => by obtain ⟨l, _, rfl, _⟩ := h; rfl) (by decide) fun cdv A outer s H E hr => ?_
  refine ⟨_, (pss_cons (ps_set (i := 1) sc_least_masks.nd rfl (Or.inl rfl) (pe_lst pa_nil))
    (pss_cons (ps_for PassesOwn.never rfl (pi_list (pe_callB cr_sortedI (by rfl) T.sorted (by decide +kernel) (pa_cons (pv 0) pa_nil))) (pg_name (i := 2) sc_least_masks.nd rfl (Or.inr rfl))
    (pss_one (ps_if (pt_val (pe_callB (cr_all rfl) (by rfl) T.all (by decide +kernel) (pa_cons (pe_lc (own := [("one", 3)]) (g := gName 3) rfl sc_least_masks.nd (pi_list (pv 1)) (blkOk_by (N := N_least_masks) (sc := defScope s_least_masks) (by decide +kernel)) (fun _ _ _ _ _ => pg_name (i := 3) sc_least_masks.nd rfl (Or.inl rfl)) (fun _ _ _ _ _ => pts_nil) (fun _ _ _ _ _ => (pe_cmpR op_ne (pe_op op_and (pv 3) (pv 2)) (pv 3) (nomark _)))) pa_nil))) (pss_one (ps_expr (pe_bm PySem.F.plainAttrs_list PySem.F.slot_list_append PySem.F.type_list_append mt_append (pv 1) (pa_cons (pv 2) pa_nil)))) pss_nil)))
    (pss_one (ps_ret (pv 1))))), ?_⟩
  rintro ds d ⟨ms, hz, rfl, rfl⟩ De o
  refine sd_seq (sd_asgO (ef_lst ea_nil) rfl fun p => sd_go ?_)
  have hl : ∀ i, (((KM.sortN ms).take i).foldl KM.leastStep []).length < 20000 := fun i => by
    have h1 := fold_len KM.leastStep 1 leastStep_len ((KM.sortN ms).take i) []
    have h2 : ((KM.sortN ms).take i).length ≤ ms.length := by rw [List.length_take, (KM.sortN_perm ms).length_eq]; omega
    rw [List.length_nil] at h1
    omega
  refine sd_seq (sd_forL (c := iD) (ts := KM.sortN ms) (ec_new (ef_cb (ea_cons (ep_var rfl) ea_nil) rf_sortedN) (imAll_nD _)) (fun i => [.val (nD ms), .own p ((((KM.sortN ms).take i).foldl KM.leastStep []).map iD), .no, .no]) rfl (fun Z' i m hm => ?_) (sd_go ?_))
  · rw [KM.fold_take _ _ hm]
    have hli := hl i
    generalize ((KM.sortN ms).take i).foldl KM.leastStep [] = kept at hli
    refine sd_if (et_B (ep_cb (ea_cons (EF.p (ef_lcL1 (c := iD) (ts := kept) (fun one => .bl (one &&& m != one)) (ep_own rfl) (fun _ _ => rfl) (by omega) (fun one _ => ep_op (ep_op (ep_var rfl) (ep_var rfl) r2_and) (ep_var rfl) r2_neN) (fun _ _ => rfl))) ea_nil) rc_allL)) (fun h => ?_) (fun h => ?_)
    · refine sd_app rfl (ep_var rfl) rfl (by rw [List.length_map]; omega) (sd_leF ?_)
      show LeE [_, _, _, _] [_, _, _, _]
      unfold KM.leastStep
      rw [if_pos h, List.map_append]
      exact .eq (.eq (.no (.no .nil)))
    · refine sd_leF ?_
      show LeE [_, _, _, _] [_, _, _, _]
      unfold KM.leastStep
      rw [if_neg (by rw [h]; decide)]
      exact .eq (.eq (.no (.no .nil)))
  · rw [List.take_length]
    exact sd_retO rfl o.rt
/-! lots_of_masks -/
abbrev s_lots_of_masks : Stmt := topS 22
abbrev N_lots_of_masks : List Str := ["masks", "mask"]
theorem sc_lots_of_masks : FnScope N_lots_of_masks ["masks"] (defScope s_lots_of_masks) := ⟨rfl, rfl, rfl, by decide +kernel, rfl, by decide +kernel, by decide +kernel⟩
def p_lots_of_masks (ds : List D) (d : D) : Prop := ∃ ms : List Nat, ms.length < 20000 ∧ (∀ m ∈ ms, m < 2 ^ 1000) ∧ (ms.length ≤ 1 ∨ ∀ m ∈ ms, m ≠ 0) ∧ ds = [nD ms] ∧ d = tsD (KM.lotsOfMasks ms)
theorem things_ne {m : Nat} (h : m ≠ 0) : KM.thingsOf m ≠ [] := fun e => h (by
  have := KM.mask_things m
  rw [e] at this
  exact this.symm)
theorem ok_lots_of_masks {f : Addr} {fd : FuncData} (F : Fun K "lots_of_masks" "lots_of_masks" s_lots_of_masks f fd) (T : Txt mg) (c_things_of : Cl P w K mg base 1 "things_of" (Pure K p_things_of)) : FnOk P w K mg base CX0 2 f fd ["masks"] (Pure K p_lots_of_masks) := by
  refine pure_ok F sc_lots_of_masks (fun ds d h => by obtain ⟨l, _, _, _, rfl, _⟩ := h; rfl) (by decide) fun cdv A outer s H E hr => ?_
  have hu := hr.units
  refine ⟨_, (pss_one (ps_ret (pe_callTy call_tuple_of (by rfl) T.tuple (by decide +kernel) (pa_cons (pe_callB (cr_sortY hu) (by rfl) T.sorted (by decide +kernel) (pa_cons (pe_lc (own := [("mask", 1)]) (g := gName 1) rfl sc_lots_of_masks.nd (pi_list (pv 0)) (blkOk_by (N := N_lots_of_masks) (sc := defScope s_lots_of_masks) (by decide +kernel)) (fun _ _ _ _ _ => pg_name (i := 1) sc_lots_of_masks.nd rfl (Or.inl rfl)) (fun _ _ _ _ _ => pts_nil) (fun _ _ _ _ _ => (pe_cl c_things_of hr (by decide) (by rfl) (pa_cons (pv 1) pa_nil)))) pa_nil)) pa_nil)))), ?_⟩
  rintro ds d ⟨ms, hz, hm, h0, rfl, rfl⟩ De o
  have hs : ((ms.map KM.thingsOf).length ≤ 1 ∨ ∀ t ∈ ms.map KM.thingsOf, t ≠ []) := by
    rcases h0 with h0 | h0
    · exact .inl (by rw [List.length_map]; exact h0)
    · refine .inr fun t ht => ?_
      obtain ⟨m, hm', rfl⟩ := List.mem_map.mp ht
      exact things_ne (h0 m hm')
  have e0 : EF K [] H (fun _ => True) (tLc (iList K (tVar 0)) (gName 1) tYes (tCall (Pure K p_things_of) [] E0 (tCons (tVar 1) tNil)) [1]) (entry N_lots_of_masks [nD ms]) ((ms.map KM.thingsOf).map tD) := by
    rw [List.map_map]
    exact ef_lcL1 (c := iD) (ts := ms) (fun m => tD (KM.thingsOf m)) (ep_var rfl) (fun _ _ => rfl) (by omega) (fun m hm' => ep_call (ea_cons (ep_var rfl) ea_nil) ⟨m, hm m hm', rfl, rfl⟩) (fun _ _ => tD_im _)
  exact sd_ret (ep_cb (ea_cons (EF.p (ef_cb (ea_cons (EF.p e0) ea_nil) (rf_sortY hs))) ea_nil) rc_tupleL) o.rt
/-! least_lots -/
abbrev s_least_lots : Stmt := topS 23
abbrev N_least_lots : List Str := ["lots", "lot"]
theorem sc_least_lots : FnScope N_least_lots ["lots"] (defScope s_least_lots) := ⟨rfl, rfl, rfl, by decide +kernel, rfl, by decide +kernel, by decide +kernel⟩
/-- lots as they are held -/
structure Lots (ls : List (List Nat)) : Prop where
  len : ls.length < 20000
  sm : ∀ l ∈ ls, Sm l
  asc : ∀ l ∈ ls, KM.Asc l
  ne : ∀ l ∈ ls, l ≠ []
def p_least_lots (ds : List D) (d : D) : Prop := ∃ ls : List (List Nat), Lots ls ∧ ds = [lsD ls] ∧ d = tsD (KM.leastLots ls)
theorem mask_lt {l : List Nat} (a : KM.Asc l) (h : Sm l) : KM.maskOf l < 2 ^ 1000 := by
  apply Nat.lt_pow_two_of_testBit
  intro i hi
  rw [KM.mask_bit a]
  simp only [decide_eq_false_iff_not]
  intro hm
  have := h.lt i hm
  omega
theorem mask_ne {l : List Nat} (a : KM.Asc l) (h : l ≠ []) : KM.maskOf l ≠ 0 := fun e => by
  have := KM.things_mask a
  rw [e] at this
  exact h this.symm
theorem leastMasks_sub {ms : List Nat} : ∀ m ∈ KM.leastMasks ms, m ∈ ms := by
  have key : ∀ (r k : List Nat), (∀ m ∈ r.foldl KM.leastStep k, m ∈ k ∨ m ∈ r) := by
    intro r
    induction r with
    | nil => intro k m h; exact .inl h
    | cons a r ih =>
      intro k m h
      rw [List.foldl_cons] at h
      rcases ih _ m h with h | h
      · unfold KM.leastStep at h
        split at h
        · rcases List.mem_append.mp h with h | h
          · exact .inl h
          · exact .inr (by simp at h; rw [h]; exact List.mem_cons_self)
        · exact .inl h
      · exact .inr (List.mem_cons_of_mem _ h)
  intro m h
  rcases key _ _ m h with h | h
  · cases h
  · exact (KM.sortN_perm ms).mem_iff.mp h
theorem leastMasks_len (ms : List Nat) : (KM.leastMasks ms).length ≤ ms.length := by
  have h1 := fold_len KM.leastStep 1 leastStep_len (KM.sortN ms) []
  rw [(KM.sortN_perm ms).length_eq, List.length_nil] at h1
  unfold KM.leastMasks
  omega
theorem ok_least_lots {f : Addr} {fd : FuncData} (F : Fun K "least_lots" "least_lots" s_least_lots f fd) (T : Txt mg) (c_mask_of : Cl P w K mg base 1 "mask_of" (Pure K p_mask_of)) (c_least_masks : Cl P w K mg base 1 "least_masks" (Fresh K p_least_masks))
    (c_lots_of_masks : Cl P w K mg base 2 "lots_of_masks" (Pure K p_lots_of_masks)) : FnOk P w K mg base CX0 3 f fd ["lots"] (Pure K p_least_lots) := by
  refine pure_ok F sc_least_lots (fun ds d h => by obtain ⟨l, _, rfl, _⟩ := h; rfl) (by decide) fun cdv A outer s H E hr => ?_
  refine ⟨_, (pss_one (ps_ret (pe_cl c_lots_of_masks hr (by decide) (by rfl) (pa_cons (pe_cl c_least_masks hr (by decide) (by rfl) (pa_cons (pe_lc (own := [("lot", 1)]) (g := gName 1) rfl sc_least_lots.nd (pi_list (pv 0)) (blkOk_by (N := N_least_lots) (sc := defScope s_least_lots) (by decide +kernel)) (fun _ _ _ _ _ => pg_name (i := 1) sc_least_lots.nd rfl (Or.inl rfl)) (fun _ _ _ _ _ => pts_nil) (fun _ _ _ _ _ => (pe_cl c_mask_of hr (by decide) (by rfl) (pa_cons (pv 1) pa_nil)))) pa_nil)) pa_nil)))), ?_⟩
  rintro ds d ⟨ls, hL, rfl, rfl⟩ De o
  have hz := hL.len
  have e0 : EF K [] H (fun _ => True) (tLc (iList K (tVar 0)) (gName 1) tYes (tCall (Pure K p_mask_of) [] E0 (tCons (tVar 1) tNil)) [1]) (entry N_least_lots [lsD ls]) ((ls.map KM.maskOf).map iD) := by
    rw [List.map_map]
    exact ef_lcL1 (c := tD) (ts := ls) (fun l => iD (KM.maskOf l)) (ep_var rfl) (fun _ _ => tD_im _) (by omega) (fun l hl => ep_call (ea_cons (ep_var rfl) ea_nil) ⟨l, hL.sm l hl, rfl, rfl⟩) (fun _ _ => rfl)
  refine sd_ret (ep_call (ea_cons (EF.p (ef_call (ea_cons (EF.p e0) ea_nil) ⟨ls.map KM.maskOf, by rw [List.length_map]; exact hz, rfl, rfl⟩)) ea_nil) ⟨KM.leastMasks (ls.map KM.maskOf), ?_, fun m hm => ?_, .inr fun m hm => ?_, rfl, rfl⟩) o.rt
  · have := leastMasks_len (ls.map KM.maskOf)
    rw [List.length_map] at this
    omega
  · obtain ⟨l, hl, rfl⟩ := List.mem_map.mp (leastMasks_sub m hm)
    exact mask_lt (hL.asc l hl) (hL.sm l hl)
  · obtain ⟨l, hl, rfl⟩ := List.mem_map.mp (leastMasks_sub m hm)
    exact mask_ne (hL.asc l hl) (hL.ne l hl)
end
end Y
set_option Elab.async false
set_option linter.all false
set_option autoImplicit false
set_option maxRecDepth 100000
set_option maxHeartbeats 4000000
namespace Y
open PySem L2
section
variable {P : Program} {w : World} {K : PySem.W.Frag} {mg : Str → Option Value} {base : Heap}
/-! blocker_lots -/
abbrev s_blocker_lots : Stmt := topS 24
abbrev N_blocker_lots : List Str := ["lots", "kept", "lot", "mask", "met", "one", "missed", "grown", "e", "near", "wide", "two"]
theorem sc_blocker_lots : FnScope N_blocker_lots ["lots"] (defScope s_blocker_lots) := ⟨rfl, rfl, rfl, by decide +kernel, rfl, by decide +kernel, by decide +kernel⟩
def keptAt (ls : List (List Nat)) (i : Nat) : List Nat := (ls.take i).foldl KM.blkStep [0]
def p_blocker_lots (ds : List D) (d : D) : Prop := ∃ ls : List (List Nat), Lots ls ∧ (∀ i, (keptAt ls i).length < 20000) ∧ ds = [tsD ls] ∧ d = tsD (KM.blockerLots ls)
def grow1 (met : List Nat) (mask e : Nat) (g : List Nat) (one : Nat) : List Nat := if (met.filter (fun t => t &&& mask == 2 ^ e)).all (fun two => two &&& (one ||| 2 ^ e) != two) then g ++ [one ||| 2 ^ e] else g
theorem grownAt_eq (met missed : List Nat) (mask : Nat) (g : List Nat) (e : Nat) : KM.grownAt met missed mask g e = missed.foldl (grow1 met mask e) g := rfl
theorem grow1_ge (met : List Nat) (mask e : Nat) (g : List Nat) (one : Nat) : g.length ≤ (grow1 met mask e g one).length := by
  unfold grow1
  split <;> simp
theorem fold_ge {α β : Type} (f : List β → α → List β) (hf : ∀ k m, k.length ≤ (f k m).length) : ∀ (l : List α) (k : List β), k.length ≤ (l.foldl f k).length
  | [], k => Nat.le_refl _
  | m :: l, k => Nat.le_trans (hf k m) (fold_ge f hf l (f k m))
theorem fold_part {α β : Type} (f : List β → α → List β) (hf : ∀ k m, k.length ≤ (f k m).length) (l : List α) (k : List β) (i : Nat) : ((l.take i).foldl f k).length ≤ (l.foldl f k).length := by
  have e : l = l.take i ++ l.drop i := (List.take_append_drop i l).symm
  have h := fold_ge f hf (l.drop i) ((l.take i).foldl f k)
  rw [← List.foldl_append, List.take_append_drop] at h
  exact h
theorem grown_ge (met missed : List Nat) (mask : Nat) (g : List Nat) (e : Nat) : g.length ≤ (KM.grownAt met missed mask g e).length := fold_ge _ (fun k m => grow1_ge met mask e k m) _ _
/-- all masks are small -/
theorem kept_lt {ls : List (List Nat)} (hL : ∀ l ∈ ls, Sm l) : ∀ m ∈ ls.foldl KM.blkStep [0], m < 2 ^ 1000 := by
  have g1 : ∀ (met missed : List Nat) (mask e : Nat), e < 1000 → (∀ m ∈ missed, m < 2 ^ 1000) → ∀ g : List Nat, (∀ m ∈ g, m < 2 ^ 1000) → ∀ m ∈ KM.grownAt met missed mask g e, m < 2 ^ 1000 := by
    intro met missed mask e he
    induction missed with
    | nil => intro _ g hg; exact hg
    | cons a r ih =>
      intro hm g hg
      refine ih (fun m h => hm m (List.mem_cons_of_mem _ h)) (grow1 met mask e g a) fun m h => ?_
      unfold grow1 at h
      split at h
      · rcases List.mem_append.mp h with h | h
        · exact hg m h
        · have : m = a ||| 2 ^ e := by simpa using h
          rw [this]
          exact Nat.or_lt_two_pow (hm a List.mem_cons_self) (Nat.pow_lt_pow_right (by omega) he)
      · exact hg m h
  have g2 : ∀ (lot : List Nat) (met missed : List Nat) (mask : Nat), (∀ x ∈ lot, x < 1000) → (∀ m ∈ missed, m < 2 ^ 1000) → ∀ g : List Nat, (∀ m ∈ g, m < 2 ^ 1000) → ∀ m ∈ lot.foldl (KM.grownAt met missed mask) g, m < 2 ^ 1000 := by
    intro lot met missed mask
    induction lot with
    | nil => intro _ _ g hg; exact hg
    | cons a r ih =>
      intro h1 h2 g hg
      exact ih (fun x h => h1 x (List.mem_cons_of_mem _ h)) h2 _ (g1 met missed mask a (h1 a List.mem_cons_self) h2 g hg)
  have key : ∀ (ls : List (List Nat)), (∀ l ∈ ls, Sm l) → ∀ k : List Nat, (∀ m ∈ k, m < 2 ^ 1000) → ∀ m ∈ ls.foldl KM.blkStep k, m < 2 ^ 1000 := by
    intro ls
    induction ls with
    | nil => intro _ k hk; exact hk
    | cons a r ih =>
      intro h1 k hk
      refine ih (fun l h => h1 l (List.mem_cons_of_mem _ h)) _ fun m h => ?_
      rcases List.mem_append.mp h with h | h
      · exact hk m (List.mem_filter.mp h).1
      · exact g2 a _ _ _ (h1 a List.mem_cons_self).lt (fun m h => hk m (List.mem_filter.mp h).1) [] (by simp) m h
  exact key ls hL [0] (by simp; exact Nat.two_pow_pos 1000)
theorem step_ne (k : List Nat) (lot : List Nat) : ∀ m ∈ KM.blkStep k lot, m ≠ 0 := by
  have g1 : ∀ (missed met : List Nat) (mask e : Nat) (g : List Nat), (∀ m ∈ g, m ≠ 0) → ∀ m ∈ KM.grownAt met missed mask g e, m ≠ 0 := by
    intro missed met mask e
    induction missed with
    | nil => intro g hg; exact hg
    | cons a r ih =>
      intro g hg
      refine ih (grow1 met mask e g a) fun m h => ?_
      unfold grow1 at h
      split at h
      · rcases List.mem_append.mp h with h | h
        · exact hg m h
        · have : m = a ||| 2 ^ e := by simpa using h
          intro z
          have hb : (a ||| 2 ^ e).testBit e = true := by simp [Nat.testBit_or]
          rw [← this, z] at hb
          simp at hb
      · exact hg m h
  have g2 : ∀ (lot : List Nat) (met missed : List Nat) (mask : Nat) (g : List Nat), (∀ m ∈ g, m ≠ 0) → ∀ m ∈ lot.foldl (KM.grownAt met missed mask) g, m ≠ 0 := by
    intro lot met missed mask
    induction lot with
    | nil => intro g hg; exact hg
    | cons a r ih => intro g hg; exact ih _ (g1 missed met mask a g hg)
  intro m h
  rcases List.mem_append.mp h with h | h
  · intro z
    subst z
    have := (List.mem_filter.mp h).2
    simp at this
  · exact g2 lot _ _ _ [] (by simp) m h
theorem kept_ne {ls : List (List Nat)} (h : ls ≠ []) : ∀ m ∈ ls.foldl KM.blkStep [0], m ≠ 0 := by
  have e : ls = ls.dropLast ++ [ls.getLast h] := (List.dropLast_concat_getLast h).symm
  rw [e, List.foldl_append]
  exact step_ne _ _
theorem ok_blocker_lots {f : Addr} {fd : FuncData} (F : Fun K "blocker_lots" "blocker_lots" s_blocker_lots f fd) (T : Txt mg) (c_mask_of : Cl P w K mg base 1 "mask_of" (Pure K p_mask_of))
    (c_lots_of_masks : Cl P w K mg base 2 "lots_of_masks" (Pure K p_lots_of_masks)) : FnOk P w K mg base CX0 3 f fd ["lots"] (Pure K p_blocker_lots) := by
  refine pure_ok F sc_blocker_lots (fun ds d h => by obtain ⟨l, _, _, rfl, _⟩ := h; rfl) (by decide) fun cdv A outer s H E hr => ?_
  refine ⟨_, (pss_cons (ps_set (i := 1) sc_blocker_lots.nd rfl (Or.inl rfl) (pe_lst (pa_cons pe_int pa_nil)))
    (pss_cons (ps_for PassesOwn.never rfl (pi_tup (pv 0)) (pg_name (i := 2) sc_blocker_lots.nd rfl (Or.inl rfl))
    (pss_cons (ps_set (i := 3) sc_blocker_lots.nd rfl (Or.inr rfl) (pe_cl c_mask_of hr (by decide) (by rfl) (pa_cons (pv 2) pa_nil)))
    (pss_cons (ps_setLc (i := 4) (own := [("one", 5)]) (g := gName 5) rfl sc_blocker_lots.nd rfl rfl (sw_true rfl rfl rfl (by decide +kernel)) (pi_list (pv 1)) (blkOk_by (N := N_blocker_lots) (sc := defScope s_blocker_lots) (by decide +kernel)) (fun _ _ _ _ _ => pg_name (i := 5) sc_blocker_lots.nd rfl (Or.inl rfl)) (fun _ _ _ _ _ => (pts_one (pt_cmpR op_ne (pe_op op_and (pv 5) (pv 3)) pe_int (nomark _)))) (fun _ _ _ _ _ => (pv 5)))
    (pss_cons (ps_setLc (i := 6) (own := [("one", 5)]) (g := gName 5) rfl sc_blocker_lots.nd rfl rfl (sw_true rfl rfl rfl (by decide +kernel)) (pi_list (pv 1)) (blkOk_by (N := N_blocker_lots) (sc := defScope s_blocker_lots) (by decide +kernel)) (fun _ _ _ _ _ => pg_name (i := 5) sc_blocker_lots.nd rfl (Or.inl rfl)) (fun _ _ _ _ _ => (pts_one (pt_cmpR op_eq (pe_op op_and (pv 5) (pv 3)) pe_int (nomark _)))) (fun _ _ _ _ _ => (pv 5)))
    (pss_cons (ps_set (i := 7) sc_blocker_lots.nd rfl (Or.inl rfl) (pe_lst pa_nil))
    (pss_cons (ps_for PassesOwn.never rfl (pi_tup (pv 2)) (pg_name (i := 8) sc_blocker_lots.nd rfl (Or.inr rfl))
    (pss_cons (ps_setLc (i := 9) (own := [("one", 5)]) (g := gName 5) rfl sc_blocker_lots.nd rfl rfl (sw_true rfl rfl rfl (by decide +kernel)) (pi_list (pv 4)) (blkOk_by (N := N_blocker_lots) (sc := defScope s_blocker_lots) (by decide +kernel)) (fun _ _ _ _ _ => pg_name (i := 5) sc_blocker_lots.nd rfl (Or.inl rfl)) (fun _ _ _ _ _ => (pts_one (pt_cmpR op_eq (pe_op op_and (pv 5) (pv 3)) (pe_op op_shlW pe_int (pv 8)) (nomark _)))) (fun _ _ _ _ _ => (pv 5)))
    (pss_one (ps_for PassesOwn.never rfl (pi_list (pv 6)) (pg_name (i := 5) sc_blocker_lots.nd rfl (Or.inl rfl))
    (pss_cons (ps_set (i := 10) sc_blocker_lots.nd rfl (Or.inr rfl) (pe_op op_or (pv 5) (pe_op op_shlW pe_int (pv 8))))
    (pss_one (ps_if (pt_val (pe_callB (cr_all rfl) (by rfl) T.all (by decide +kernel) (pa_cons (pe_lc (own := [("two", 11)]) (g := gName 11) rfl sc_blocker_lots.nd (pi_list (pv 9)) (blkOk_by (N := N_blocker_lots) (sc := defScope s_blocker_lots) (by decide +kernel)) (fun _ _ _ _ _ => pg_name (i := 11) sc_blocker_lots.nd rfl (Or.inl rfl)) (fun _ _ _ _ _ => pts_nil) (fun _ _ _ _ _ => (pe_cmpR op_ne (pe_op op_and (pv 11) (pv 10)) (pv 11) (nomark _)))) pa_nil))) (pss_one (ps_expr (pe_bm PySem.F.plainAttrs_list PySem.F.slot_list_append PySem.F.type_list_append mt_append (pv 7) (pa_cons (pv 10) pa_nil)))) pss_nil)))))))
    (pss_one (ps_set (i := 1) sc_blocker_lots.nd rfl (Or.inl rfl) (pe_op op_cat (pv 4) (pv 7))))))))))
    (pss_one (ps_ret (pe_cl c_lots_of_masks hr (by decide) (by rfl) (pa_cons (pv 1) pa_nil)))))), ?_⟩
  rintro ds d ⟨ls, hL, hk, rfl, rfl⟩ De o
  refine sd_seq (sd_asgL (ef_lst (ea_cons ep_n0 ea_nil)) rfl (sd_go ?_))
  refine sd_seq (sd_forT (c := tD) (ts := ls) (ec_var rfl) (fun i => [.val (tsD ls), .val (nD (keptAt ls i)), .no, .no, .no, .no, .no, .no, .no, .no, .no, .no]) rfl (fun Z' i lot hlot => ?_) (sd_go ?_))
  · have hsm := hL.sm lot (List.mem_of_getElem? hlot)
    have hki := hk i
    have hki1 := hk (i + 1)
    have e1 : keptAt ls (i + 1) = KM.blkStep (keptAt ls i) lot := KM.fold_take _ _ hlot
    rw [e1] at hki1 ⊢
    generalize keptAt ls i = kept at hki hki1
    refine sd_seq (sd_asg (ep_call (ea_cons (ep_var rfl) ea_nil) ⟨lot, hsm, rfl, rfl⟩) rfl (sd_go ?_))
    refine sd_seq (sd_asgO (ef_lcL (c := iD) (ts := kept) (fun one => one &&& KM.maskOf lot != 0) iD (ep_var rfl) (fun _ _ => rfl) (by omega) (fun one _ => et_test (ep_op (ep_op (ep_var rfl) (ep_var rfl) r2_and) ep_n0 r2_neN)) (fun one _ _ => ep_var rfl) (fun _ _ _ => rfl)) (imAll_nD _) fun q => sd_go ?_)
    refine sd_seq (sd_asgL (ef_lcL (c := iD) (ts := kept) (fun one => one &&& KM.maskOf lot == 0) iD (ep_var rfl) (fun _ _ => rfl) (by omega) (fun one _ => et_test (ep_op (ep_op (ep_var rfl) (ep_var rfl) r2_and) ep_n0 r2_eqN)) (fun one _ _ => ep_var rfl) (fun _ _ _ => rfl)) (imAll_nD _) (sd_go ?_))
    have hml : (kept.filter fun one => one &&& KM.maskOf lot != 0).length ≤ kept.length := List.length_filter_le _ _
    have hsl : (kept.filter fun one => one &&& KM.maskOf lot == 0).length ≤ kept.length := List.length_filter_le _ _
    have hgl : (lot.foldl (KM.grownAt (kept.filter fun one => one &&& KM.maskOf lot != 0) (kept.filter fun one => one &&& KM.maskOf lot == 0) (KM.maskOf lot)) []).length < 20000 := by
      have := hki1
      unfold KM.blkStep at this
      rw [List.length_append] at this
      omega
    unfold KM.blkStep
    generalize (kept.filter fun one => one &&& KM.maskOf lot != 0) = met at hml hgl
    generalize (kept.filter fun one => one &&& KM.maskOf lot == 0) = missed at hsl hgl
    refine sd_seq (sd_asgO (ef_lst ea_nil) rfl fun p => sd_go ?_)
    refine sd_seq (sd_forT (c := iD) (ts := lot) (ec_im (ep_var (at_c rfl (tD_eq lot))) (by rw [← tD_eq]; exact tD_im lot)) (fun j => [.val (tsD ls), .val (nD kept), .val (tD lot), .val (iD (KM.maskOf lot)), .own q (met.map iD), .no, .val (nD missed), .own p (((lot.take j).foldl (KM.grownAt met missed (KM.maskOf lot)) []).map iD), .no, .no, .no, .no]) rfl (fun Z2 j e he => ?_) (sd_go ?_))
    · have hel := hsm.lt e (List.mem_of_getElem? he)
      rw [KM.fold_take _ _ he]
      have hpart : (KM.grownAt met missed (KM.maskOf lot) ((lot.take j).foldl (KM.grownAt met missed (KM.maskOf lot)) []) e).length < 20000 := by
        rw [← KM.fold_take (KM.grownAt met missed (KM.maskOf lot)) [] he]
        have := fold_part (KM.grownAt met missed (KM.maskOf lot)) (fun k m => grown_ge met missed (KM.maskOf lot) k m) lot [] (j + 1)
        omega
      generalize (lot.take j).foldl (KM.grownAt met missed (KM.maskOf lot)) [] = g at hpart
      rw [grownAt_eq] at hpart ⊢
      refine sd_seq (sd_asgL (ef_lcL (c := iD) (ts := met) (fun one => one &&& KM.maskOf lot == 2 ^ e) iD (ep_own rfl) (fun _ _ => rfl) (by omega) (fun one _ => et_test (ep_op (ep_op (ep_var rfl) (ep_var rfl) r2_and) (ep_op ep_int (ep_var rfl) (r2_shl1 (by omega))) r2_eqN)) (fun one _ _ => ep_var rfl) (fun _ _ _ => rfl)) (imAll_nD _) (sd_go ?_))
      have hnl : (met.filter fun one => one &&& KM.maskOf lot == 2 ^ e).length ≤ met.length := List.length_filter_le _ _
      refine sd_forL (c := iD) (ts := missed) (ec_var rfl) (fun k => [.val (tsD ls), .val (nD kept), .val (tD lot), .val (iD (KM.maskOf lot)), .own q (met.map iD), .no, .val (nD missed), .own p (((missed.take k).foldl (grow1 met (KM.maskOf lot) e) g).map iD), .val (iD e), .val (nD (met.filter fun one => one &&& KM.maskOf lot == 2 ^ e)), .no, .no]) ?_ (fun Z3 k one hone => ?_) ?_
      · rfl
      · rw [KM.fold_take _ _ hone]
        have hp2 := fold_part (grow1 met (KM.maskOf lot) e) (fun k m => grow1_ge met (KM.maskOf lot) e k m) missed g k
        generalize (missed.take k).foldl (grow1 met (KM.maskOf lot) e) g = g2 at hp2
        refine sd_seq (sd_asg (ep_op (ep_var rfl) (ep_op ep_int (ep_var rfl) (r2_shl1 (by omega))) r2_or) rfl (sd_go ?_))
        refine sd_if (et_B (ep_cb (ea_cons (EF.p (ef_lcL1 (c := iD) (ts := met.filter fun one => one &&& KM.maskOf lot == 2 ^ e) (fun two => .bl (two &&& (one ||| 2 ^ e) != two)) (ep_var rfl) (fun _ _ => rfl) (by omega) (fun two _ => ep_op (ep_op (ep_var rfl) (ep_var rfl) r2_and) (ep_var rfl) r2_neN) (fun _ _ => rfl))) ea_nil) rc_allL)) (fun h => ?_) (fun h => ?_)
        · refine sd_app rfl (ep_var rfl) rfl (by rw [List.length_map]; omega) (sd_leF ?_)
          show LeE [_, _, _, _, _, _, _, _, _, _, _, _] [_, _, _, _, _, _, _, _, _, _, _, _]
          unfold grow1
          rw [if_pos h, List.map_append]
          exact .eq (.eq (.eq (.eq (.eq (.no (.eq (.eq (.eq (.eq (.no (.no .nil)))))))))))
        · refine sd_leF ?_
          show LeE [_, _, _, _, _, _, _, _, _, _, _, _] [_, _, _, _, _, _, _, _, _, _, _, _]
          unfold grow1
          rw [if_neg (by rw [h]; decide)]
          exact .eq (.eq (.eq (.eq (.eq (.no (.eq (.eq (.eq (.eq (.no (.no .nil)))))))))))
      · rw [List.take_length]
        refine sd_leF ?_
        show LeE [_, _, _, _, _, _, _, _, _, _, _, _] [_, _, _, _, _, _, _, _, _, _, _, _]
        exact .eq (.eq (.eq (.eq (.eq (.no (.eq (.eq (.no (.no (.no (.no .nil)))))))))))
    · rw [List.take_length]
      refine sd_asgL (ef_cat (el_own rfl) (el_own rfl) (by rw [List.length_map, List.length_map]; omega)) (by rw [← List.map_append]; exact imAll_nD _) (sd_leF ?_)
      show LeE [_, _, _, _, _, _, _, _, _, _, _, _] [_, _, _, _, _, _, _, _, _, _, _, _]
      rw [← List.map_append]
      exact .eq (.eq (.no (.no (.no (.no (.no (.no (.no (.no (.no (.no .nil)))))))))))
  · have e1 : keptAt ls ls.length = ls.foldl KM.blkStep [0] := by unfold keptAt; rw [List.take_length]
    have hkl := hk ls.length
    rw [e1] at hkl ⊢
    refine sd_ret (ep_call (ea_cons (ep_var rfl) ea_nil) ⟨_, hkl, kept_lt hL.sm, ?_, rfl, rfl⟩) o.rt
    by_cases h : ls = []
    · subst h
      exact .inl (by simp)
    · exact .inr (kept_ne h)
end
end Y
set_option Elab.async false
set_option linter.all false
set_option autoImplicit false
set_option maxRecDepth 100000
set_option maxHeartbeats 4000000
namespace Y
open PySem L2
theorem tD_at {E : List Slot} {i : Nat} {l : List Nat} (h : E[i]? = some (.val (tD l))) : E[i]? = some (.val (.tup (l.map iD))) := by rw [h, tD_eq]
theorem in_at {K : PySem.W.Frag} {a : Nat} {l : List Nat} : R2d K (rIn K false) (iD a) (tD l) (.bl (decide (a ∈ l))) := by
  have h := r2_inI (K := K) (i := (a : Int)) (ns := zs l) (y := tD l) (.inl rfl)
  have e : decide ((a : Int) ∈ zs l) = decide (a ∈ l) := by
    rw [Bool.eq_iff_iff, decide_eq_true_iff, decide_eq_true_iff]
    unfold zs
    rw [List.mem_map]
    constructor
    · rintro ⟨b, h1, h2⟩
      have : b = a := by omega
      rw [← this]; exact h1
    · intro h; exact ⟨a, h, rfl⟩
  rw [e] at h
  exact h
theorem nin_at {K : PySem.W.Frag} {a : Nat} {l : List Nat} : R2d K (rIn K true) (iD a) (tD l) (.bl (!decide (a ∈ l))) := by
  have h := r2_ninI (K := K) (i := (a : Int)) (ns := zs l) (y := tD l) (.inl rfl)
  have e : decide ((a : Int) ∈ zs l) = decide (a ∈ l) := by
    rw [Bool.eq_iff_iff, decide_eq_true_iff, decide_eq_true_iff]
    unfold zs
    rw [List.mem_map]
    constructor
    · rintro ⟨b, h1, h2⟩
      have : b = a := by omega
      rw [← this]; exact h1
    · intro h; exact ⟨a, h, rfl⟩
  rw [e] at h
  exact h
section
variable {P : Program} {w : World} {K : PySem.W.Frag} {mg : Str → Option Value} {base : Heap}
/-! inside -/
abbrev s_law_inside : Stmt := topS 45
abbrev N_law_inside : List Str := ["_law_one", "_law_other", "_law_thing"]
theorem sc_law_inside : FnScope N_law_inside ["_law_one", "_law_other"] (defScope s_law_inside) := ⟨rfl, rfl, rfl, by decide +kernel, rfl, by decide +kernel, by decide +kernel⟩
def p_law_inside (ds : List D) (d : D) : Prop := ∃ a b : List Nat, a.length < 20000 ∧ ds = [tD a, tD b] ∧ d = .bl (KM.inside a b)
theorem ok_law_inside {f : Addr} {fd : FuncData} (F : Fun K "_law_inside" "_law_inside" s_law_inside f fd) (T : Txt mg) : FnOk P w K mg base CX0 1 f fd ["_law_one", "_law_other"] (Pure K p_law_inside) := by
  refine pure_ok F sc_law_inside (fun ds d h => by obtain ⟨_, _, _, rfl, _⟩ := h; rfl) (by decide) fun cdv A outer s H E hr => ?_
  refine ⟨_, (pss_one (ps_ret (pe_cmpR op_eq (pe_callB call_len_seq (by rfl) T.len PySem.boot_len (pa_cons (pe_lc (own := [("_law_thing", 2)]) (g := gName 2) rfl sc_law_inside.nd (pi_tup (pv 0)) (blkOk_by (N := N_law_inside) (sc := defScope s_law_inside) (by decide +kernel)) (fun _ _ _ _ _ => pg_name (i := 2) sc_law_inside.nd rfl (Or.inl rfl)) (fun _ _ _ _ _ => (pts_one (pt_cmpR (r := rIn K true) op_notIn_seq (pv 2) (pv 1) rfl))) (fun _ _ _ _ _ => (pv 2))) pa_nil)) pe_int (nomark _)))), ?_⟩
  rintro ds d ⟨a, b, hz, rfl, rfl⟩ De o
  exact sd_ret (ep_op (ep_cb (ea_cons (EF.p (ef_lcT (c := iD) (ts := a) (fun x => !decide (x ∈ b)) iD (ep_var (tD_at rfl)) (fun _ _ => rfl) (by omega) (fun x _ => et_test (ep_op (ep_var rfl) (ep_var rfl) nin_at)) (fun x _ _ => ep_var rfl) (fun _ _ _ => rfl))) ea_nil) rc_lenLn) ep_n0 r2_eqN) o.rt
/-! common -/
abbrev s_law_common : Stmt := topS 46
abbrev N_law_common : List Str := ["_law_one", "_law_other", "_law_thing"]
theorem sc_law_common : FnScope N_law_common ["_law_one", "_law_other"] (defScope s_law_common) := ⟨rfl, rfl, rfl, by decide +kernel, rfl, by decide +kernel, by decide +kernel⟩
def p_law_common (ds : List D) (d : D) : Prop := ∃ a b : List Nat, a.length < 20000 ∧ ds = [tD a, tD b] ∧ d = iD (KM.common a b)
theorem ok_law_common {f : Addr} {fd : FuncData} (F : Fun K "_law_common" "_law_common" s_law_common f fd) (T : Txt mg) : FnOk P w K mg base CX0 1 f fd ["_law_one", "_law_other"] (Pure K p_law_common) := by
  refine pure_ok F sc_law_common (fun ds d h => by obtain ⟨_, _, _, rfl, _⟩ := h; rfl) (by decide) fun cdv A outer s H E hr => ?_
  refine ⟨_, (pss_one (ps_ret (pe_callB call_len_seq (by rfl) T.len PySem.boot_len (pa_cons (pe_lc (own := [("_law_thing", 2)]) (g := gName 2) rfl sc_law_common.nd (pi_tup (pv 0)) (blkOk_by (N := N_law_common) (sc := defScope s_law_common) (by decide +kernel)) (fun _ _ _ _ _ => pg_name (i := 2) sc_law_common.nd rfl (Or.inl rfl)) (fun _ _ _ _ _ => (pts_one (pt_cmpR (r := rIn K false) op_in_seq (pv 2) (pv 1) rfl))) (fun _ _ _ _ _ => (pv 2))) pa_nil)))), ?_⟩
  rintro ds d ⟨a, b, hz, rfl, rfl⟩ De o
  exact sd_ret (ep_cb (ea_cons (EF.p (ef_lcT (c := iD) (ts := a) (fun x => decide (x ∈ b)) iD (ep_var (tD_at rfl)) (fun _ _ => rfl) (by omega) (fun x _ => et_test (ep_op (ep_var rfl) (ep_var rfl) in_at)) (fun x _ _ => ep_var rfl) (fun _ _ _ => rfl))) ea_nil) rc_lenLn) o.rt
/-! subsets -/
abbrev s_law_subsets : Stmt := topS 47
abbrev N_law_subsets : List Str := ["_law_size", "_law_found", "_law_thing", "_law_those"]
theorem sc_law_subsets : FnScope N_law_subsets ["_law_size"] (defScope s_law_subsets) := ⟨rfl, rfl, rfl, by decide +kernel, rfl, by decide +kernel, by decide +kernel⟩
def p_law_subsets (ds : List D) (l : List D) : Prop := ∃ n : Nat, n ≤ 12 ∧ ds = [iD n] ∧ l = (KM.subsets n).map tD
theorem tD_app (l : List Nat) (n : Nat) : D.tup ((l.map iD) ++ [iD n]) = tD (l ++ [n]) := by
  rw [tD_eq, List.map_append]
  rfl
theorem ok_law_subsets {f : Addr} {fd : FuncData} (F : Fun K "_law_subsets" "_law_subsets" s_law_subsets f fd) (T : Txt mg) : FnOk P w K mg base CX0 1 f fd ["_law_size"] (Fresh K p_law_subsets) := by
  refine fresh_ok F sc_law_subsets (fun ds d h => by obtain ⟨_, _, rfl, _⟩ := h; rfl) (by decide) fun cdv A outer s H E hr => ?_
  refine ⟨_, (pss_cons (ps_set (i := 1) sc_law_subsets.nd rfl (Or.inl rfl) (pe_lst (pa_cons (pe_tup pa_nil) pa_nil)))
    (pss_cons (ps_for PassesOwn.never rfl (pi_range1 (by rfl) T.range (pa_cons (pv 0) pa_nil)) (pg_name (i := 2) sc_law_subsets.nd rfl (Or.inr rfl))
    (pss_one (ps_set (i := 1) sc_law_subsets.nd rfl (Or.inl rfl) (pe_op op_cat (pv 1) (pe_lc (own := [("_law_those", 3)]) (g := gName 3) rfl sc_law_subsets.nd (pi_list (pv 1)) (blkOk_by (N := N_law_subsets) (sc := defScope s_law_subsets) (by decide +kernel)) (fun _ _ _ _ _ => pg_name (i := 3) sc_law_subsets.nd rfl (Or.inl rfl)) (fun _ _ _ _ _ => pts_nil) (fun _ _ _ _ _ => (pe_op (r := rCatA K) op_catA (pv 3) (pe_tup (pa_cons (pv 2) pa_nil)))))))))
    (pss_one (ps_ret (pv 1))))), ?_⟩
  rintro ds d ⟨n, hn, rfl, rfl⟩ De o
  refine sd_seq (sd_asgO (ef_lst (ea_cons (ep_tup ea_nil) ea_nil)) rfl fun p0 => sd_go ?_)
  refine sd_seq (sd_forRW (fun i E => ∃ p, E = [.val (iD n), .own p ((KM.subsets i).map tD), .no, .no]) (ea_cons (ep_var rfl) ea_nil) (by omega) ⟨p0, rfl⟩ ?_ ?_)
  · rintro i E hi ⟨p, rfl⟩
    have hl : (KM.subsets i).length ≤ 4096 := by
      rw [KM.subsets_len]
      have : 2 ^ i ≤ 2 ^ 12 := Nat.pow_le_pow_right (by omega) (by omega)
      omega
    refine sd_asgO (ef_cat (el_own rfl) (el_new (ef_lcL1 (c := tD) (ts := KM.subsets i) (fun s => tD (s ++ [i])) (ep_own rfl) (fun _ _ => tD_im _) (by omega) (fun s hs => ?_) (fun _ _ => tD_im _))) (by rw [List.length_map, List.length_map]; omega)) ?_ fun q => sd_lw ⟨q, rfl⟩ ?_
    · have hsl : s.length ≤ 12 := by
        obtain ⟨h1, h2⟩ := (KM.subsets_mem i s).mp hs
        have : s.length ≤ (List.range 12).length := by
          have hn : s.Nodup := h1.imp fun h => Nat.ne_of_lt h
          exact hn.length_le_of_subset fun x hx => List.mem_range.mpr (by have := h2 x hx; omega)
        simpa using this
      refine ep_is (ep_op (ep_var (tD_at rfl)) (ep_tup (ea_cons (ep_var rfl) ea_nil)) (r2_catA (by rw [List.length_map]; simp; omega))) (tD_app s i)
    · exact imAll_append (imAll_tD _) (imAll_map (fun _ => tD_im _) _)
    · show LeE [_, _, _, _] [_, _, _, _]
      rw [KM.subsets_succ, List.map_append, List.map_map]
      exact .eq (.eq (.no (.no .nil)))
  · rintro E ⟨p, rfl⟩
    exact sd_go (sd_retO rfl o.rt)
end
end Y
set_option Elab.async false
set_option linter.all false
set_option autoImplicit false
set_option maxRecDepth 100000
set_option maxHeartbeats 4000000
namespace Y
open PySem L2
theorem sub_len {n : Nat} {s : List Nat} (hn : n ≤ 12) (hs : s ∈ KM.subsets n) : s.length ≤ 12 := by
  obtain ⟨h1, h2⟩ := (KM.subsets_mem n s).mp hs
  have hd : s.Nodup := h1.imp fun h => Nat.ne_of_lt h
  have : s.length ≤ (List.range 12).length := hd.length_le_of_subset fun x hx => List.mem_range.mpr (by have := h2 x hx; omega)
  simpa using this
theorem leastL1_len (ls : List (List Nat)) (k : List (List Nat)) (m : List Nat) : (KM.leastL1 ls k m).length ≤ k.length + 1 := by
  unfold KM.leastL1
  split
  · omega
  · split <;> simp
theorem ef_is {K : PySem.W.Frag} {B : List Addr} {H0 : Hp} {Z : Hp → Prop} {E : List Slot} {te : TE} {l m : List D} (h : EF K B H0 Z te E l) (e : l = m) : EF K B H0 Z te E m := e ▸ h
section
variable {P : Program} {w : World} {K : PySem.W.Frag} {mg : Str → Option Value} {base : Heap}
/-- lots of the law: few, short, small -/
structure LL (ls : List (List Nat)) : Prop where
  len : ls.length < 20000
  sm : ∀ l ∈ ls, Sm l
theorem units1 {A : Around} {k : Nat} (hr : Room k A) : A.units + 65 < cLine := by have := hr.un; omega
/-! least -/
abbrev s_law_least : Stmt := topS 48
abbrev N_law_least : List Str := ["_law_lots", "_law_kept", "_law_lot", "_law_other"]
theorem sc_law_least : FnScope N_law_least ["_law_lots"] (defScope s_law_least) := ⟨rfl, rfl, rfl, by decide +kernel, rfl, by decide +kernel, by decide +kernel⟩
def p_law_least (ds : List D) (l : List D) : Prop := ∃ ls : List (List Nat), LL ls ∧ (∀ l ∈ ls, l ≠ []) ∧ ds = [lsD ls] ∧ l = (KM.leastL ls).map tD
theorem ok_law_least {f : Addr} {fd : FuncData} (F : Fun K "_law_least" "_law_least" s_law_least f fd) (T : Txt mg) (c_law_inside : Cl P w K mg base 1 "_law_inside" (Pure K p_law_inside)) : FnOk P w K mg base CX0 2 f fd ["_law_lots"] (Fresh K p_law_least) := by
  refine fresh_ok F sc_law_least (fun ds d h => by obtain ⟨_, _, _, rfl, _⟩ := h; rfl) (by decide) fun cdv A outer s H E hr => ?_
  have hu := hr.units
  have hu1 := units1 hr
  refine ⟨_, (pss_cons (ps_set (i := 1) sc_law_least.nd rfl (Or.inl rfl) (pe_lst pa_nil))
    (pss_cons (ps_for PassesOwn.never rfl (pi_list (pv 0)) (pg_name (i := 2) sc_law_least.nd rfl (Or.inr rfl))
    (pss_one (ps_if (pt_cmpR (r := rNotInD K) (op_notInD hu1) (pv 2) (pv 1) rfl) (pss_one (ps_if (pt_cmpR op_eq (pe_callB (r := rLen K) call_lenY (by rfl) T.len PySem.boot_len (pa_cons (pe_lc (own := [("_law_other", 3)]) (g := gName 3) rfl sc_law_least.nd (pi_list (pv 0)) (blkOk_by (N := N_law_least) (sc := defScope s_law_least) (by decide +kernel)) (fun _ _ _ _ _ => pg_name (i := 3) sc_law_least.nd rfl (Or.inl rfl)) (fun _ _ _ _ _ => (pts_one (pw_and (pt_cmpR (r := rNeD K) (op_neD hu) (pv 3) (pv 2) (nomark _)) (pw_and1 (pt_val (pe_cl c_law_inside hr (by decide) (by rfl) (pa_cons (pv 3) (pa_cons (pv 2) pa_nil)))))).pt)) (fun _ _ _ _ _ => (pv 3))) pa_nil)) pe_int (nomark _)) (pss_one (ps_expr (pe_bm PySem.F.plainAttrs_list PySem.F.slot_list_append PySem.F.type_list_append mt_append (pv 1) (pa_cons (pv 2) pa_nil)))) pss_nil)) pss_nil)))
    (pss_one (ps_ret (pe_callB (r := rSortY K) (cr_sortY hu) (by rfl) T.sorted (by decide +kernel) (pa_cons (pv 1) pa_nil)))))), ?_⟩
  rintro ds d ⟨ls, hL, hne, rfl, rfl⟩ De o
  have hz := hL.len
  refine sd_seq (sd_asgO (ef_lst ea_nil) rfl fun p => sd_go ?_)
  have hl : ∀ i, ((ls.take i).foldl (KM.leastL1 ls) []).length < 20000 := fun i => by
    have h1 := fold_len (KM.leastL1 ls) 1 (leastL1_len ls) (ls.take i) []
    have h2 : (ls.take i).length ≤ ls.length := by rw [List.length_take]; omega
    rw [List.length_nil] at h1
    omega
  have hsub : ∀ i, ∀ x ∈ (ls.take i).foldl (KM.leastL1 ls) [], x ∈ ls := fun i => by
    have key : ∀ (r k : List (List Nat)), (∀ x ∈ k, x ∈ ls) → (∀ x ∈ r, x ∈ ls) → ∀ x ∈ r.foldl (KM.leastL1 ls) k, x ∈ ls := by
      intro r
      induction r with
      | nil => intro k hk _; exact hk
      | cons a r ih =>
        intro k hk hr'
        refine ih _ (fun x hx => ?_) fun x hx => hr' x (List.mem_cons_of_mem _ hx)
        unfold KM.leastL1 at hx
        split at hx
        · exact hk x hx
        · split at hx
          · rcases List.mem_append.mp hx with h | h
            · exact hk x h
            · have : x = a := by simpa using h
              rw [this]; exact hr' a List.mem_cons_self
          · exact hk x hx
    exact key _ [] (by simp) fun x hx => List.mem_of_mem_take hx
  refine sd_seq (sd_forL (c := tD) (ts := ls) (ec_var rfl) (fun i => [.val (lsD ls), .own p (((ls.take i).foldl (KM.leastL1 ls) []).map tD), .no, .no]) rfl (fun Z' i lot hlot => ?_) (sd_go ?_))
  · rw [KM.fold_take _ _ hlot]
    have hli := hl i
    generalize (ls.take i).foldl (KM.leastL1 ls) [] = kept at hli
    refine sd_if (et_test (ep_op (ep_var rfl) (ep_own rfl) (r2_ninD (b := !decide (lot ∈ kept)) (tD_cmp lot) (lsD_cmp kept).1 (by rw [mem_tD]; simp)))) (fun h => ?_) (fun h => ?_)
    · have hn : lot ∉ kept := by simpa using h
      refine sd_if (et_test (ep_op (ep_cb (ea_cons (EF.p (ef_lcL (c := tD) (ts := ls) (fun o => !decide (o = lot) && KM.inside o lot) tD (ep_var rfl) (fun _ _ => tD_im _) (by omega)
        (fun o' ho => et_and (et_test (ep_op (ep_var rfl) (ep_var rfl) (r2_neD (b := !decide (o' = lot)) (tD_cmp _) (tD_cmp _) (by rw [tD_inj]; simp)))) fun _ => et_B (ep_call (ea_cons (ep_var rfl) (ea_cons (ep_var rfl) ea_nil)) ⟨o', lot, (hL.sm o' ho).len, rfl, rfl⟩)) (fun _ _ _ => ep_var rfl) (fun _ _ _ => tD_im _))) ea_nil) rc_lenLn) ep_n0 r2_eqN)) (fun h2 => ?_) (fun h2 => ?_)
      · refine sd_app rfl (ep_var rfl) (tD_im _) (by rw [List.length_map]; omega) (sd_leF ?_)
        show LeE [_, _, _, _] [_, _, _, _]
        unfold KM.leastL1
        rw [if_neg hn, if_pos h2, List.map_append]
        exact .eq (.eq (.no (.no .nil)))
      · refine sd_leF ?_
        show LeE [_, _, _, _] [_, _, _, _]
        unfold KM.leastL1
        rw [if_neg hn, if_neg (by rw [h2]; decide)]
        exact .eq (.eq (.no (.no .nil)))
    · have hn : lot ∈ kept := by simpa using h
      refine sd_leF ?_
      show LeE [_, _, _, _] [_, _, _, _]
      unfold KM.leastL1
      rw [if_pos hn]
      exact .eq (.eq (.no (.no .nil)))
  · have hsl := hsub ls.length
    rw [List.take_length] at hsl ⊢
    exact sd_retF (ef_cb (ea_cons (ep_own rfl) ea_nil) (rf_sortY (.inr fun t ht => hne t (hsl t ht)))) o.rt
/-! holds -/
abbrev s_law_holds : Stmt := topS 49
abbrev N_law_holds : List Str := ["_law_lots", "_law_those", "_law_lot"]
theorem sc_law_holds : FnScope N_law_holds ["_law_lots", "_law_those"] (defScope s_law_holds) := ⟨rfl, rfl, rfl, by decide +kernel, rfl, by decide +kernel, by decide +kernel⟩
def p_law_holds (ds : List D) (d : D) : Prop := ∃ (ls : List (List Nat)) (s : List Nat), LL ls ∧ ds = [lsD ls, tD s] ∧ d = .bl (KM.holds ls s)
theorem ok_law_holds {f : Addr} {fd : FuncData} (F : Fun K "_law_holds" "_law_holds" s_law_holds f fd) (T : Txt mg) (c_law_inside : Cl P w K mg base 1 "_law_inside" (Pure K p_law_inside)) : FnOk P w K mg base CX0 2 f fd ["_law_lots", "_law_those"] (Pure K p_law_holds) := by
  refine pure_ok F sc_law_holds (fun ds d h => by obtain ⟨_, _, _, rfl, _⟩ := h; rfl) (by decide) fun cdv A outer s H E hr => ?_
  refine ⟨_, (pss_cons (ps_for PassesOwn.never rfl (pi_list (pv 0)) (pg_name (i := 2) sc_law_holds.nd rfl (Or.inl rfl))
    (pss_one (ps_if (pt_val (pe_cl c_law_inside hr (by decide) (by rfl) (pa_cons (pv 2) (pa_cons (pv 1) pa_nil)))) (pss_one (ps_ret pe_bl)) pss_nil)))
    (pss_one (ps_ret pe_bl))), ?_⟩
  rintro ds d ⟨ls, t, hL, rfl, rfl⟩ De o
  refine sd_seq (sd_forLP (c := tD) (ts := ls) (fun i => ∀ l ∈ ls.take i, KM.inside l t = false) (ec_var rfl) (fun _ => [.val (lsD ls), .val (tD t), .no]) rfl (by simp) (fun Z' i lot hlot hp => ?_) (fun hp => sd_go ?_))
  · refine sd_if (et_B (ep_call (ea_cons (ep_var rfl) (ea_cons (ep_var rfl) ea_nil)) ⟨lot, t, (hL.sm lot (List.mem_of_getElem? hlot)).len, rfl, rfl⟩)) (fun h => ?_) (fun h => ?_)
    · have e : KM.holds ls t = true := List.any_eq_true.mpr ⟨lot, List.mem_of_getElem? hlot, h⟩
      rw [e] at o
      exact sd_ret ep_bl o.rt
    · refine sd_lp (fun l hl => ?_) ?_
      · rw [take_step hlot] at hl
        rcases List.mem_append.mp hl with hl | hl
        · exact hp l hl
        · have : l = lot := by simpa using hl
          rw [this]; exact h
      · exact .eq (.eq (.no .nil))
  · have e : KM.holds ls t = false := by
      rw [List.take_length] at hp
      rw [← Bool.not_eq_true]
      intro z
      obtain ⟨l, h1, h2⟩ := List.any_eq_true.mp z
      rw [hp l h1] at h2
      cases h2
    rw [e] at o
    exact sd_ret ep_bl o.rt
/-! meets -/
abbrev s_law_meets : Stmt := topS 50
abbrev N_law_meets : List Str := ["_law_lots", "_law_those", "_law_lot"]
theorem sc_law_meets : FnScope N_law_meets ["_law_lots", "_law_those"] (defScope s_law_meets) := ⟨rfl, rfl, rfl, by decide +kernel, rfl, by decide +kernel, by decide +kernel⟩
def p_law_meets (ds : List D) (d : D) : Prop := ∃ (ls : List (List Nat)) (s : List Nat), LL ls ∧ ds = [lsD ls, tD s] ∧ d = .bl (KM.meets ls s)
theorem ok_law_meets {f : Addr} {fd : FuncData} (F : Fun K "_law_meets" "_law_meets" s_law_meets f fd) (T : Txt mg) (c_law_common : Cl P w K mg base 1 "_law_common" (Pure K p_law_common)) : FnOk P w K mg base CX0 2 f fd ["_law_lots", "_law_those"] (Pure K p_law_meets) := by
  refine pure_ok F sc_law_meets (fun ds d h => by obtain ⟨_, _, _, rfl, _⟩ := h; rfl) (by decide) fun cdv A outer s H E hr => ?_
  refine ⟨_, (pss_cons (ps_for PassesOwn.never rfl (pi_list (pv 0)) (pg_name (i := 2) sc_law_meets.nd rfl (Or.inl rfl))
    (pss_one (ps_if (pt_cmpR op_eq (pe_cl c_law_common hr (by decide) (by rfl) (pa_cons (pv 2) (pa_cons (pv 1) pa_nil))) pe_int (nomark _)) (pss_one (ps_ret pe_bl)) pss_nil)))
    (pss_one (ps_ret pe_bl))), ?_⟩
  rintro ds d ⟨ls, t, hL, rfl, rfl⟩ De o
  refine sd_seq (sd_forLP (c := tD) (ts := ls) (fun i => ∀ l ∈ ls.take i, KM.common l t ≠ 0) (ec_var rfl) (fun _ => [.val (lsD ls), .val (tD t), .no]) rfl (by simp) (fun Z' i lot hlot hp => ?_) (fun hp => sd_go ?_))
  · refine sd_if (et_test (ep_op (ep_call (ea_cons (ep_var rfl) (ea_cons (ep_var rfl) ea_nil)) ⟨lot, t, (hL.sm lot (List.mem_of_getElem? hlot)).len, rfl, rfl⟩) ep_n0 r2_eqN)) (fun h => ?_) (fun h => ?_)
    · have e : KM.meets ls t = false := by
        rw [← Bool.not_eq_true]
        intro z
        have := List.all_eq_true.mp z lot (List.mem_of_getElem? hlot)
        simp at h this
        exact this h
      rw [e] at o
      exact sd_ret ep_bl o.rt
    · refine sd_lp (fun l hl => ?_) ?_
      · rw [take_step hlot] at hl
        rcases List.mem_append.mp hl with hl | hl
        · exact hp l hl
        · have : l = lot := by simpa using hl
          rw [this]; simpa using h
      · exact .eq (.eq (.no .nil))
  · have e : KM.meets ls t = true := by
      rw [List.take_length] at hp
      exact List.all_eq_true.mpr fun l hl => by simpa using hp l hl
    rw [e] at o
    exact sd_ret ep_bl o.rt
/-! blocker -/
abbrev s_law_blocker : Stmt := topS 51
abbrev N_law_blocker : List Str := ["_law_size", "_law_lots", "_law_found", "_law_those", "_law_spare", "_law_thing", "_law_other"]
theorem sc_law_blocker : FnScope N_law_blocker ["_law_size", "_law_lots"] (defScope s_law_blocker) := ⟨rfl, rfl, rfl, by decide +kernel, rfl, by decide +kernel, by decide +kernel⟩
def p_law_blocker (ds : List D) (l : List D) : Prop := ∃ (n : Nat) (ls : List (List Nat)), n ≤ 12 ∧ LL ls ∧ ls ≠ [] ∧ ds = [iD n, lsD ls] ∧ l = (KM.blocker n ls).map tD
theorem ok_law_blocker {f : Addr} {fd : FuncData} (F : Fun K "_law_blocker" "_law_blocker" s_law_blocker f fd) (T : Txt mg) (c_law_subsets : Cl P w K mg base 1 "_law_subsets" (Fresh K p_law_subsets)) (c_law_meets : Cl P w K mg base 2 "_law_meets" (Pure K p_law_meets)) : FnOk P w K mg base CX0 3 f fd ["_law_size", "_law_lots"] (Fresh K p_law_blocker) := by
  refine fresh_ok F sc_law_blocker (fun ds d h => by obtain ⟨_, _, _, _, _, rfl, _⟩ := h; rfl) (by decide) fun cdv A outer s H E hr => ?_
  have hu := hr.units
  have hu1 := units1 hr
  refine ⟨_, (pss_cons (ps_set (i := 2) sc_law_blocker.nd rfl (Or.inl rfl) (pe_lst pa_nil))
    (pss_cons (ps_for PassesOwn.never rfl (pi_list (pe_cl c_law_subsets hr (by decide) (by rfl) (pa_cons (pv 0) pa_nil))) (pg_name (i := 3) sc_law_blocker.nd rfl (Or.inl rfl))
    (pss_one (ps_if (pt_val (pe_cl c_law_meets hr (by decide) (by rfl) (pa_cons (pv 1) (pa_cons (pv 3) pa_nil)))) (pss_cons (ps_set (i := 4) sc_law_blocker.nd rfl (Or.inl rfl) pe_int)
    (pss_cons (ps_for PassesOwn.never rfl (pi_tup (pv 3)) (pg_name (i := 5) sc_law_blocker.nd rfl (Or.inr rfl))
    (pss_one (ps_if (pt_val (pe_cl c_law_meets hr (by decide) (by rfl) (pa_cons (pv 1) (pa_cons (pe_callTy (r := rTupOf K) call_tupY (by rfl) T.tuple (by decide +kernel) (pa_cons (pe_lc (own := [("_law_other", 6)]) (g := gName 6) rfl sc_law_blocker.nd (pi_tup (pv 3)) (blkOk_by (N := N_law_blocker) (sc := defScope s_law_blocker) (by decide +kernel)) (fun _ _ _ _ _ => pg_name (i := 6) sc_law_blocker.nd rfl (Or.inl rfl)) (fun _ _ _ _ _ => (pts_one (pt_cmpR op_ne (pv 6) (pv 5) (nomark _)))) (fun _ _ _ _ _ => (pv 6))) pa_nil)) pa_nil)))) (pss_one (ps_set (i := 4) sc_law_blocker.nd rfl (Or.inl rfl) (pe_op op_add (pv 4) pe_int))) pss_nil)))
    (pss_one (ps_if (pt_cmpR op_eq (pv 4) pe_int (nomark _)) (pss_one (ps_expr (pe_bm PySem.F.plainAttrs_list PySem.F.slot_list_append PySem.F.type_list_append mt_append (pv 2) (pa_cons (pv 3) pa_nil)))) pss_nil)))) pss_nil)))
    (pss_one (ps_ret (pe_callB (r := rSortY K) (cr_sortY hu) (by rfl) T.sorted (by decide +kernel) (pa_cons (pv 2) pa_nil)))))), ?_⟩
  rintro ds d ⟨n, ls, hn, hL, hls, rfl, rfl⟩ De o
  refine sd_seq (sd_asgO (ef_lst ea_nil) rfl fun p => sd_go ?_)
  have h4 : (KM.subsets n).length ≤ 4096 := by
    rw [KM.subsets_len]
    have : 2 ^ n ≤ 2 ^ 12 := Nat.pow_le_pow_right (by omega) (by omega)
    omega
  have hlen : ∀ i, (((KM.subsets n).take i).filter (KM.isBlk ls)).length ≤ 4096 := fun i => by
    have h1 := List.length_filter_le (KM.isBlk ls) ((KM.subsets n).take i)
    have h2 : ((KM.subsets n).take i).length ≤ (KM.subsets n).length := by rw [List.length_take]; omega
    omega
  refine sd_seq (sd_forL (c := tD) (ts := KM.subsets n) (ec_new (ef_call (ea_cons (ep_var rfl) ea_nil) ⟨n, hn, rfl, rfl⟩) (imAll_tD _)) (fun i => [.val (iD n), .val (lsD ls), .own p ((((KM.subsets n).take i).filter (KM.isBlk ls)).map tD), .no, .no, .no, .no]) rfl (fun Z' i t ht => ?_) (sd_go ?_))
  · have htl : t.length ≤ 12 := sub_len hn (List.mem_of_getElem? ht)
    have hli := hlen i
    rw [take_step ht, List.filter_append, List.map_append]
    generalize ((KM.subsets n).take i).filter (KM.isBlk ls) = acc at hli
    refine sd_if (et_B (ep_call (ea_cons (ep_var rfl) (ea_cons (ep_var rfl) ea_nil)) ⟨ls, t, hL, rfl, rfl⟩)) (fun hm => ?_) (fun hm => ?_)
    · refine sd_seq (sd_asg ep_n0 rfl (sd_go ?_))
      refine sd_seq (sd_forT (c := iD) (ts := t) (ec_im (ep_var (tD_at rfl)) (by rw [← tD_eq]; exact tD_im _)) (fun j => [.val (iD n), .val (lsD ls), .own p (acc.map tD), .val (tD t), .val (iD ((t.take j).filter fun x => KM.meets ls (t.filter fun o => o != x)).length), .no, .no]) rfl (fun Z2 j x hx => ?_) (sd_go ?_))
      · rw [take_step hx, List.filter_append, List.length_append]
        refine sd_if (et_B (ep_call (ea_cons (ep_var rfl) (ea_cons (ep_is (ep_cb (ea_cons (EF.p (ef_lcT (c := iD) (ts := t) (fun o => o != x) iD (ep_var (tD_at rfl)) (fun _ _ => rfl) (by omega) (fun o' _ => et_test (ep_op (ep_var rfl) (ep_var rfl) r2_neN)) (fun _ _ _ => ep_var rfl) (fun _ _ _ => rfl))) ea_nil) rc_tupleL) (tD_eq _).symm) ea_nil)) ⟨ls, t.filter fun o => o != x, hL, rfl, rfl⟩)) (fun h => ?_) (fun h => ?_)
        · refine sd_asg (ep_op (ep_var rfl) ep_n1 r2_int) rfl (sd_leF ?_)
          show LeE [_, _, _, _, _, _, _] [_, _, _, _, _, _, _]
          have e : ([x].filter fun x => KM.meets ls (t.filter fun o => o != x)).length = 1 := by simp [h]
          rw [e]
          exact .eq (.eq (.eq (.eq (.eq (.no (.no .nil))))))
        · refine sd_leF ?_
          show LeE [_, _, _, _, _, _, _] [_, _, _, _, _, _, _]
          have e : ([x].filter fun x => KM.meets ls (t.filter fun o => o != x)).length = 0 := by simp [h]
          rw [e]
          exact .eq (.eq (.eq (.eq (.eq (.no (.no .nil))))))
      · rw [List.take_length]
        refine sd_if (et_test (ep_op (ep_var rfl) ep_n0 r2_eqN)) (fun h => ?_) (fun h => ?_)
        · refine sd_app rfl (ep_var rfl) (tD_im _) (by rw [List.length_map]; omega) (sd_leF ?_)
          show LeE [_, _, _, _, _, _, _] [_, _, _, _, _, _, _]
          have e : [t].filter (KM.isBlk ls) = [t] := by
            have : KM.isBlk ls t = true := by
              show (KM.meets ls t && KM.spare ls t == 0) = true
              rw [hm]; exact h
            simp [this]
          rw [e]
          exact .eq (.eq (.eq (.no (.no (.no (.no .nil))))))
        · refine sd_leF ?_
          show LeE [_, _, _, _, _, _, _] [_, _, _, _, _, _, _]
          have e : [t].filter (KM.isBlk ls) = [] := by
            have : KM.isBlk ls t = false := by
              show (KM.meets ls t && KM.spare ls t == 0) = false
              rw [hm]; exact h
            simp [this]
          rw [e, List.map_nil, List.append_nil]
          exact .eq (.eq (.eq (.no (.no (.no (.no .nil))))))
    · refine sd_leF ?_
      show LeE [_, _, _, _, _, _, _] [_, _, _, _, _, _, _]
      have e : [t].filter (KM.isBlk ls) = [] := by
        have : KM.isBlk ls t = false := by
          show (KM.meets ls t && KM.spare ls t == 0) = false
          rw [hm]; rfl
        simp [this]
      rw [e, List.map_nil, List.append_nil]
      exact .eq (.eq (.eq (.no (.no (.no (.no .nil))))))
  · rw [List.take_length]
    refine sd_retF (ef_cb (ea_cons (ep_own rfl) ea_nil) (rf_sortY (.inr fun t ht => ?_))) o.rt
    intro e
    subst e
    have h := (List.mem_filter.mp ht).2
    have hm : KM.meets ls [] = true := by
      have : (KM.meets ls [] && KM.spare ls [] == 0) = true := h
      simp at this
      exact this.1
    cases ls with
    | nil => exact hls rfl
    | cons a r =>
      obtain ⟨x, _, hx⟩ := KM.meets_iff.mp hm a List.mem_cons_self
      cases hx
/-! sized -/
abbrev s_law_sized : Stmt := topS 52
abbrev N_law_sized : List Str := ["_law_size", "_law_number", "_law_those"]
theorem sc_law_sized : FnScope N_law_sized ["_law_size", "_law_number"] (defScope s_law_sized) := ⟨rfl, rfl, rfl, by decide +kernel, rfl, by decide +kernel, by decide +kernel⟩
def p_law_sized (ds : List D) (l : List D) : Prop := ∃ n k : Nat, n ≤ 12 ∧ 1 ≤ k ∧ ds = [iD n, iD k] ∧ l = (KM.sized n k).map tD
theorem ok_law_sized {f : Addr} {fd : FuncData} (F : Fun K "_law_sized" "_law_sized" s_law_sized f fd) (T : Txt mg) (c_law_subsets : Cl P w K mg base 1 "_law_subsets" (Fresh K p_law_subsets)) : FnOk P w K mg base CX0 2 f fd ["_law_size", "_law_number"] (Fresh K p_law_sized) := by
  refine fresh_ok F sc_law_sized (fun ds d h => by obtain ⟨_, _, _, _, rfl, _⟩ := h; rfl) (by decide) fun cdv A outer s H E hr => ?_
  have hu := hr.units
  have hu1 := units1 hr
  refine ⟨_, (pss_one (ps_ret (pe_callB (r := rSortY K) (cr_sortY hu) (by rfl) T.sorted (by decide +kernel) (pa_cons (pe_lc (own := [("_law_those", 2)]) (g := gName 2) rfl sc_law_sized.nd (pi_list (pe_cl c_law_subsets hr (by decide) (by rfl) (pa_cons (pv 0) pa_nil))) (blkOk_by (N := N_law_sized) (sc := defScope s_law_sized) (by decide +kernel)) (fun _ _ _ _ _ => pg_name (i := 2) sc_law_sized.nd rfl (Or.inl rfl)) (fun _ _ _ _ _ => (pts_one (pt_cmpR op_eq (pe_callB (r := rLen K) call_lenY (by rfl) T.len PySem.boot_len (pa_cons (pv 2) pa_nil)) (pv 1) (nomark _)))) (fun _ _ _ _ _ => (pv 2))) pa_nil)))), ?_⟩
  rintro ds d ⟨n, k, hn, hk, rfl, rfl⟩ De o
  have h4 : (KM.subsets n).length ≤ 4096 := by
    rw [KM.subsets_len]
    have : 2 ^ n ≤ 2 ^ 12 := Nat.pow_le_pow_right (by omega) (by omega)
    omega
  refine sd_retF (ef_cb (ea_cons (EF.p (ef_lcL (c := tD) (ts := KM.subsets n) (fun s => s.length == k) tD (EF.p (ef_call (ea_cons (ep_var rfl) ea_nil) ⟨n, hn, rfl, rfl⟩)) (fun _ _ => tD_im _) (by omega)
    (fun s _ => et_test (ep_op (ep_cb (ea_cons (ep_var (tD_at rfl)) ea_nil) rc_lenTn) (ep_var rfl) r2_eqN)) (fun _ _ _ => ep_var rfl) (fun _ _ _ => tD_im _))) ea_nil) (rf_sortY (.inr fun t ht => ?_))) o.rt
  intro e
  subst e
  have h := (List.mem_filter.mp ht).2
  simp at h
  omega
/-! fan -/
abbrev s_law_fan : Stmt := topS 53
abbrev N_law_fan : List Str := ["_law_size", "_law_lots", "_law_thing"]
theorem sc_law_fan : FnScope N_law_fan ["_law_size"] (defScope s_law_fan) := ⟨rfl, rfl, rfl, by decide +kernel, rfl, by decide +kernel, by decide +kernel⟩
def p_law_fan (ds : List D) (l : List D) : Prop := ∃ n : Nat, 3 ≤ n ∧ n ≤ 60 ∧ ds = [iD n] ∧ l = (KM.fanL n).map tD
theorem ok_law_fan {f : Addr} {fd : FuncData} (F : Fun K "_law_fan" "_law_fan" s_law_fan f fd) (T : Txt mg) : FnOk P w K mg base CX0 1 f fd ["_law_size"] (Fresh K p_law_fan) := by
  refine fresh_ok F sc_law_fan (fun ds d h => by obtain ⟨_, _, _, rfl, _⟩ := h; rfl) (by decide) fun cdv A outer s H E hr => ?_
  have hu := hr.units
  have hu1 := units1 hr
  refine ⟨_, (pss_cons (ps_setLc (i := 1) (own := [("_law_thing", 2)]) (g := gName 2) rfl sc_law_fan.nd rfl rfl (sw_true rfl rfl rfl (by decide +kernel)) (pi_range2 (by rfl) T.range (pa_cons pe_int (pa_cons (pv 0) pa_nil))) (blkOk_by (N := N_law_fan) (sc := defScope s_law_fan) (by decide +kernel)) (fun _ _ _ _ _ => pg_name (i := 2) sc_law_fan.nd rfl (Or.inl rfl)) (fun _ _ _ _ _ => pts_nil) (fun _ _ _ _ _ => (pe_tup (pa_cons pe_int (pa_cons (pv 2) pa_nil)))))
    (pss_one (ps_ret (pe_callB (r := rSortY K) (cr_sortY hu) (by rfl) T.sorted (by decide +kernel) (pa_cons (pe_op op_cat (pv 1) (pe_lst (pa_cons (pe_tupRg rfl (by rfl) T.tuple (prg_2 (by rfl) T.range pe_int (pv 0))) pa_nil))) pa_nil))))), ?_⟩
  rintro ds d ⟨n, h3, hn, rfl, rfl⟩ De o
  have e1 : (((n : Int) - 1).toNat) = n - 1 := by omega
  refine sd_seq (sd_asgO (ef_lcR21 (fun i => tD [0, i + 1]) (ea_cons ep_n1 (ea_cons (ep_var rfl) ea_nil)) (by omega) (by omega) (fun i hi => ep_is (ep_tup (ea_cons ep_n0 (ea_cons (ep_var rfl) ea_nil))) ?_) (fun _ _ => tD_im _)) (imAll_map (fun _ => tD_im _) _) fun p => sd_go ?_)
  · rw [tD_eq]
    show D.tup [.int 0, .int (1 + (i : Int))] = D.tup [.int 0, .int ((i + 1 : Nat) : Int)]
    have : (1 + (i : Int)) = ((i + 1 : Nat) : Int) := by omega
    rw [this]
  · have e2 : ((List.range (n - 1)).map fun i => [0, i + 1]).map tD = (List.range (n - 1)).map fun i => tD [0, i + 1] := by rw [List.map_map]; rfl
    have e3 : D.tup ((List.range (((n : Int) - 1).toNat)).map fun (i : Nat) => D.int (1 + (i : Int))) = tD ((List.range (n - 1)).map fun i => i + 1) := by
      rw [tD_eq, e1, List.map_map]
      congr 1
      refine List.map_congr_left fun i _ => ?_
      show D.int (1 + (i : Int)) = D.int ((i + 1 : Nat) : Int)
      rw [show (1 + (i : Int)) = ((i + 1 : Nat) : Int) by omega]
    have hb := ep_tupRg2 (K := K) (B := []) (H0 := H) (Z := fun _ => True) (E := (entry N_law_fan [iD n]).set 1 (.own p ((List.range (((n : Int) - 1).toNat)).map fun i => tD [0, i + 1]))) (ta := tC (.int 1)) (tb := tVar 0) (lo := 1) (hi := n) ep_n1 (ep_var rfl) (by omega)
    have hc := ef_cat (K := K) (B := []) (H0 := H) (Z := fun _ => True) (E := (entry N_law_fan [iD n]).set 1 (.own p ((List.range (((n : Int) - 1).toNat)).map fun i => tD [0, i + 1]))) (ta := tVar 1) (el_own rfl) (el_new (ef_lst (ea_cons (ep_is hb e3) ea_nil))) (by rw [List.length_map, List.length_range]; simp; omega)
    have hs := rf_sortY (K := K) (ts := (List.range (n - 1)).map (fun i => [0, i + 1]) ++ [(List.range (n - 1)).map fun i => i + 1]) (.inr fun t ht => ?_)
    · rw [lsD, List.map_append, e2] at hs
      exact sd_retF (ef_cb (ea_cons (EF.p (ef_is hc (by rw [e1]; rfl))) ea_nil) hs) o.rt
    · rcases List.mem_append.mp ht with h | h
      · obtain ⟨i, _, rfl⟩ := List.mem_map.mp h
        simp
      · have : t = (List.range (n - 1)).map fun i => i + 1 := by simpa using h
        rw [this]
        intro z
        have := congrArg List.length z
        simp at this
        omega
end
end Y
set_option Elab.async false
set_option linter.all false
set_option autoImplicit false
set_option maxRecDepth 100000
set_option maxHeartbeats 4000000
namespace Y
open PySem L2
/-- the class BadSet -/
structure BadC (P : Program) (K : PySem.W.Frag) (mg : Str → Option Value) (C f : Addr) : Prop where
  c : ExcK K P C f "bad set: place "
  m : mg "BadSet" = some (.ref C)
  s : mg "super" = none
section
variable {P : Program} {w : World} {K : PySem.W.Frag} {mg : Str → Option Value} {base : Heap}
/-! is_integer -/
abbrev s_is_integer : Stmt := topS 13
abbrev N_is_integer : List Str := ["value", "low"]
theorem sc_is_integer : FnScope N_is_integer ["value", "low"] (defScope s_is_integer) := ⟨rfl, rfl, rfl, by decide +kernel, rfl, by decide +kernel, by decide +kernel⟩
def isInt (e : D) (low : Int) : Bool := match e with
  | .int i => decide (low ≤ i)
  | _ => false
theorem kit_int {ty : String} (h : ty ∈ ["NoneType", "bool", "int", "str", "tuple", "list"]) : kitB ty "int" = some (ty == "bool" || ty == "int") ∧ kitB ty "bool" = some (ty == "bool") ∧ kitB ty "list" = some (ty == "list") ∧ kitB ty "tuple" = some (ty == "tuple") := by
  revert ty
  decide +kernel
theorem tyN_mem {d : D} {ty : String} (h : d.tyN = some ty) : ty ∈ ["NoneType", "bool", "int", "str", "tuple", "list"] := by
  cases d <;> simp_all [D.tyN] <;> simp [← h]
def p_is_integer (ds : List D) (d : D) : Prop := ∃ (e : D) (low : Int), e.tyN.isSome = true ∧ ds = [e, .int low] ∧ d = .bl (isInt e low)
theorem ok_is_integer {f : Addr} {fd : FuncData} (F : Fun K "is_integer" "is_integer" s_is_integer f fd) (T : Txt mg) : FnOk P w K mg base CX0 1 f fd ["value", "low"] (Pure K p_is_integer) := by
  refine pure_ok F sc_is_integer (fun ds d h => by obtain ⟨_, _, _, rfl, _⟩ := h; rfl) (by decide) fun cdv A outer s H E hr => ?_
  refine ⟨_, (pss_one (ps_ret (pe_and (pe_callB (r := rIsi K) call_isi (by rfl) T.isinstance (by decide +kernel) (pa_cons (pv 0) (pa_cons (pe_bltn (v := .ty "int") (by rfl) T.int (by decide +kernel) rfl) pa_nil))) (pe_and (pe_not (pe_callB (r := rIsi K) call_isi (by rfl) T.isinstance (by decide +kernel) (pa_cons (pv 0) (pa_cons (pe_bltn (v := .ty "bool") (by rfl) T.bool (by decide +kernel) rfl) pa_nil)))) (pe_one (pe_cmpR op_ge (pv 0) (pv 1) (nomark _))))))), ?_⟩
  rintro ds d ⟨e, low, ht, rfl, rfl⟩ De o
  obtain ⟨ty, ht⟩ := Option.isSome_iff_exists.mp ht
  obtain ⟨k1, k2, _⟩ := kit_int (tyN_mem ht)
  refine sd_ret (ep_is (ep_andV (c := (!(ty == "bool")) && isInt e low) (ep_isi (ep_var rfl) ht k1) fun h1 => ep_is (ep_andV (c := isInt e low) (ep_notV (ep_isi (ep_var rfl) ht k2)) fun h2 => ?_) rfl) ?_) o.rt
  · have : ty = "int" := by simpa [show (ty == "bool") = false by simpa using h2] using h1
    subst this
    cases e with
    | int i => exact ep_op (ep_var rfl) (ep_var rfl) r2_cmp
    | _ => simp [D.tyN] at ht
  · cases e <;> simp [D.tyN] at ht <;> subst ht <;> simp [isInt]
/-! ask_size -/
abbrev s_ask_size : Stmt := topS 15
abbrev N_ask_size : List Str := ["size"]
theorem sc_ask_size : FnScope N_ask_size ["size"] (defScope s_ask_size) := ⟨rfl, rfl, rfl, by decide +kernel, rfl, by decide +kernel, by decide +kernel⟩
def p_ask_size (ds : List D) (d : D) : Prop := ∃ n : Nat, 1 ≤ n ∧ ds = [iD n] ∧ d = .non
theorem ok_ask_size {f : Addr} {fd : FuncData} (F : Fun K "ask_size" "ask_size" s_ask_size f fd) (T : Txt mg) (c_is_integer : Cl P w K mg base 1 "is_integer" (Pure K p_is_integer)) : FnOk P w K mg base CX0 2 f fd ["size"] (Pure K p_ask_size) := by
  refine pure_ok F sc_ask_size (fun ds d h => by obtain ⟨_, _, rfl, _⟩ := h; rfl) (by decide) fun cdv A outer s H E hr => ?_
  refine ⟨_, (pss_one (ps_if (pt_not (pt_val (pe_cl c_is_integer hr (by decide) (by rfl) (pa_cons (pv 0) (pa_cons pe_int pa_nil))))) pss_never pss_nil)), ?_⟩
  rintro ds d ⟨n, hn, rfl, rfl⟩ De o
  have e : isInt (iD n) 1 = true := by simp [isInt, iD]; omega
  refine sd_if (et_not (et_B (ep_call (ea_cons (ep_var rfl) (ea_cons ep_int ea_nil)) ⟨iD n, 1, rfl, rfl, rfl⟩))) (fun h => ?_) (fun h => ?_)
  · rw [e] at h
    cases h
  · exact sd_end o
/-! is_thing -/
abbrev s_is_thing : Stmt := topS 16
abbrev N_is_thing : List Str := ["value", "size"]
theorem sc_is_thing : FnScope N_is_thing ["value", "size"] (defScope s_is_thing) := ⟨rfl, rfl, rfl, by decide +kernel, rfl, by decide +kernel, by decide +kernel⟩
def isTh (e : D) (n : Nat) : Bool := match e with
  | .int i => decide (0 ≤ i) && decide (i < (n : Int))
  | _ => false
def p_is_thing (ds : List D) (d : D) : Prop := ∃ (e : D) (n : Nat), e.tyN.isSome = true ∧ ds = [e, iD n] ∧ d = .bl (isTh e n)
theorem ok_is_thing {f : Addr} {fd : FuncData} (F : Fun K "is_thing" "is_thing" s_is_thing f fd) (T : Txt mg) (c_is_integer : Cl P w K mg base 1 "is_integer" (Pure K p_is_integer)) : FnOk P w K mg base CX0 2 f fd ["value", "size"] (Pure K p_is_thing) := by
  refine pure_ok F sc_is_thing (fun ds d h => by obtain ⟨_, _, _, rfl, _⟩ := h; rfl) (by decide) fun cdv A outer s H E hr => ?_
  refine ⟨_, (pss_one (ps_ret (pe_and (pe_cl c_is_integer hr (by decide) (by rfl) (pa_cons (pv 0) (pa_cons pe_int pa_nil))) (pe_one (pe_cmpR op_lt (pv 0) (pv 1) (nomark _)))))), ?_⟩
  rintro ds d ⟨e, n, ht, rfl, rfl⟩ De o
  refine sd_ret (ep_is (ep_andV (c := isTh e n) (ep_call (ea_cons (ep_var rfl) (ea_cons ep_int ea_nil)) ⟨e, 0, ht, rfl, rfl⟩) fun h => ?_) ?_) o.rt
  · cases e with
    | int i =>
      have h0 : decide (0 ≤ i) = true := h
      exact ep_is (ep_op (ep_var rfl) (ep_var rfl) (r2_cmp (g := fun i j => decide (i < j)))) (by simp only [isTh, h0, Bool.true_and])
    | _ => simp [isInt] at h
  · cases e <;> simp [isInt, isTh]
/-! set_of -/
abbrev s_set_of : Stmt := topS 18
abbrev N_set_of : List Str := ["things", "size", "found", "place"]
theorem sc_set_of : FnScope N_set_of ["things", "size"] (defScope s_set_of) := ⟨rfl, rfl, rfl, by decide +kernel, rfl, by decide +kernel, by decide +kernel⟩
/-- a row of things, none twice -/
structure Row (n : Nat) (f : List Nat) : Prop where
  len : f.length < 20000
  nd : f.Nodup
  lt : ∀ x ∈ f, x < n
def Seq (s : D) (l : List D) : Prop := s = .tup l ∨ s = .lst l
def p_set_of (ds : List D) (d : D) : Prop := ∃ (f : List Nat) (n : Nat) (s : D), 1 ≤ n ∧ Row n f ∧ Seq s (f.map iD) ∧ ds = [s, iD n] ∧ d = tD (KM.sortN f)
def q_set_of (CB : Addr) (ds : List D) (C : Addr) (m : Int) : Prop := C = CB ∧ ∃ n : Nat, 1 ≤ n ∧ ((ds = [.non, iD n] ∧ m = -1) ∨
  ∃ (f : List Nat) (e : D) (r : List D) (s : D), Row n f ∧ r.length < 20000 ∧ e.tyN.isSome = true ∧ (isTh e n = false ∨ ∃ x ∈ f, e = iD x) ∧ Seq s (f.map iD ++ e :: r) ∧ ds = [s, iD n] ∧ m = (f.length : Int))
theorem Seq.ty {s : D} {l : List D} (h : Seq s l) : ∃ ty, s.tyN = some ty ∧ (ty == "list" || ty == "tuple") = true := by
  rcases h with rfl | rfl
  · exact ⟨_, rfl, by decide⟩
  · exact ⟨_, rfl, by decide⟩
theorem Seq.len {s : D} {l : List D} (h : Seq s l) : RCd K (rLen K) [s] (.int l.length) := by
  rcases h with rfl | rfl
  · exact rc_lenT
  · exact rc_lenL
theorem Seq.ix {s d : D} {l : List D} {i : Nat} (h : Seq s l) (e : l[i]? = some d) : R2d K (rIx K) s (iD i) d := by
  have a : atI l (i : Int) = some d := by
    have hi : i < l.length := (List.getElem?_eq_some_iff.mp e).1
    unfold atI ixN
    rw [if_pos (by omega), if_pos (by omega)]
    have : ((i : Int)).toNat = i := by omega
    rw [this]
    exact e
  rcases h with rfl | rfl
  · exact fun vx vy H hx hy Q q => .inr (.inl (r2_ixT a vx vy H hx hy Q q))
  · exact fun vx vy H hx hy Q q => .inl (r2_ixL a vx vy H hx hy Q q)
theorem r1_neg {i : Int} : R1d K (rU fun i => .int (-i)) (.int i) (.int (-i)) := fun v H h Q q => by
  cases h
  exact ⟨i, rfl, q _ H (Ex.refl H) (.int _)⟩
theorem isTh_nat {x n : Nat} : isTh (iD x) n = decide (x < n) := by
  simp only [isTh, iD]
  by_cases h : x < n <;> simp [h] <;> omega
theorem in_own {x : Nat} {l : List Nat} : R2d K (rIn K false) (iD x) (.lst (l.map iD)) (.bl (decide (x ∈ l))) := by
  have e0 : (D.lst (l.map iD)) = .lst ((zs l).map D.int) := nD_eq l
  have h := r2_inI (K := K) (i := (x : Int)) (ns := zs l) (y := .lst (l.map iD)) (.inr e0)
  have e : decide ((x : Int) ∈ zs l) = decide (x ∈ l) := by
    rw [Bool.eq_iff_iff, decide_eq_true_iff, decide_eq_true_iff]
    unfold zs
    constructor
    · intro h
      obtain ⟨y, h1, h2⟩ := List.mem_map.mp h
      have : y = x := by omega
      rw [← this]; exact h1
    · intro h
      exact List.mem_map.mpr ⟨x, h, rfl⟩
  rw [e] at h
  exact h
theorem nodup_take {f : List Nat} {i x : Nat} (nd : f.Nodup) (e : f[i]? = some x) : x ∉ f.take i := by
  intro h
  obtain ⟨j, hj, e2⟩ := List.mem_iff_getElem.mp h
  have hji : j < i := by
    rw [List.length_take] at hj
    omega
  rw [List.getElem_take] at e2
  obtain ⟨hi, e1⟩ := List.getElem?_eq_some_iff.mp e
  exact (List.pairwise_iff_getElem.mp nd) j i (by omega) hi hji (e2.trans e1.symm)
theorem ok_set_of {CB fB : Addr} {f : Addr} {fd : FuncData} (F : Fun K "set_of" "set_of" s_set_of f fd) (T : Txt mg) (bc : BadC P K mg CB fB) (c_ask_size : Cl P w K mg base 2 "ask_size" (Pure K p_ask_size)) (c_is_thing : Cl P w K mg base 2 "is_thing" (Pure K p_is_thing)) :
    FnOk P w K mg base (L2.CX P w) 3 f fd ["things", "size"] (PureX K p_set_of (q_set_of CB)) := by
  refine purex_ok F sc_set_of (fun ds h => by
    rcases h with ⟨d, _, _, _, _, _, _, rfl, _⟩ | ⟨C, m, _, n, _, ⟨rfl, _⟩ | ⟨_, _, _, _, _, _, _, _, _, rfl, _⟩⟩ <;> rfl) (by decide) fun cdv A outer s H E hr => ?_
  have tk : L2.Takes (cxOf (L2.CX P w) P w K mg base N_set_of "set_of" (defScope s_set_of) f cdv A outer s H E) (fun cls d _ H => E cls d H) := takes_of rfl rfl rfl rfl
  have po : PassesOwn (model P w) (cxOf (L2.CX P w) P w K mg base N_set_of "set_of" (defScope s_set_of) f cdv A outer s H E).A (cxOf (L2.CX P w) P w K mg base N_set_of "set_of" (defScope s_set_of) f cdv A outer s H E).env (cxOf (L2.CX P w) P w K mg base N_set_of "set_of" (defScope s_set_of) f cdv A outer s H E).xe := passes_of rfl
  refine ⟨_, (pss_cons (ps_expr (pe_cl c_ask_size hr (by decide) (by rfl) (pa_cons (pv 1) pa_nil)))
    (pss_cons (ps_if (pt_not (pt_val (pe_callB (r := rIsiT K) call_isiT (by rfl) T.isinstance (by decide +kernel) (pa_cons (pv 0) (pa_cons (pe_tup (pa_cons (pe_bltn (v := .ty "list") (by rfl) T.list (by decide +kernel) rfl) (pa_cons (pe_bltn (v := .ty "tuple") (by rfl) T.tuple (by decide +kernel) rfl) pa_nil))) pa_nil)))))
      (pss_one (ps_raise (by rfl) tk (pmk_exc (k := 0) bc.c (by decide) (hr.mono (by decide)) (by rfl) bc.m bc.s (pa_cons (pe_un un_neg pe_int) pa_nil)))) pss_nil)
    (pss_cons (ps_set (i := 2) sc_set_of.nd rfl (Or.inl rfl) (pe_lst pa_nil))
    (pss_cons (ps_for po rfl (pi_range1 (by rfl) T.range (pa_cons (pe_callB (r := rLen K) call_lenY (by rfl) T.len PySem.boot_len (pa_cons (pv 0) pa_nil)) pa_nil)) (pg_name (i := 3) sc_set_of.nd rfl (Or.inl rfl))
    (pss_cons (ps_if (pw_or (pt_not (pt_val (pe_cl c_is_thing hr (by decide) (by rfl) (pa_cons (pe_ix (r := rIx K) ix_seq (pv 0) (pv 3) (fun _ _ => rfl)) (pa_cons (pv 1) pa_nil))))) (pw_or1 (pt_cmpR (r := rIn K false) op_in_seq (pe_ix (r := rIx K) ix_seq (pv 0) (pv 3) (fun _ _ => rfl)) (pv 2) rfl))).pt
      (pss_one (ps_raise (by rfl) tk (pmk_exc (k := 0) bc.c (by decide) (hr.mono (by decide)) (by rfl) bc.m bc.s (pa_cons (pv 3) pa_nil)))) pss_nil)
    (pss_one (ps_expr (pe_bm PySem.F.plainAttrs_list PySem.F.slot_list_append PySem.F.type_list_append mt_append (pv 2) (pa_cons (pe_ix (r := rIx K) ix_seq (pv 0) (pv 3) (fun _ _ => rfl)) pa_nil))))))
    (pss_one (ps_ret (pe_callTy (r := rTupOf K) call_tupY (by rfl) T.tuple (by decide +kernel) (pa_cons (pe_callB (r := rSortedI K) cr_sortedI (by rfl) T.sorted (by decide +kernel) (pa_cons (pv 2) pa_nil)) pa_nil)))))))), ?_, ?_⟩
  · rintro ds d ⟨l, n, sq, hn, hl, hs, rfl, rfl⟩ De o
    obtain ⟨ty, ht, hty⟩ := hs.ty
    obtain ⟨_, _, k1, k2⟩ := kit_int (tyN_mem ht)
    refine sd_seq (sd_drop (ep_call (ea_cons (ep_var rfl) ea_nil) ⟨n, hn, rfl, rfl⟩) (sd_go ?_))
    refine sd_seq (sd_if (et_not (et_B (ep_isiT (ep_var rfl) ht k1 k2))) (fun h => ?_) (fun h => ?_))
    · rw [hty] at h
      cases h
    refine sd_go (sd_seq (sd_asgO (ef_lst ea_nil) rfl fun p => sd_go ?_))
    have hlen : ((l.map iD).length : Int) = (l.length : Int) := by rw [List.length_map]
    refine sd_seq (sd_forRP (n := (l.length : Int)) (fun _ => True) (ea_cons (ep_is (ep_cb (ea_cons (ep_var rfl) ea_nil) hs.len) (by rw [hlen])) ea_nil) (by have := hl.len; omega) (fun i => [.val sq, .val (iD n), .own p ((l.take i).map iD), .no]) rfl trivial (fun i hi _ => ?_) (fun _ => sd_go ?_))
    · have hi' : i < l.length := by omega
      have e1 : (l.map iD)[i]? = some (iD l[i]) := by rw [List.getElem?_map, List.getElem?_eq_getElem hi']; rfl
      have hlt : l[i] < n := hl.lt _ (List.getElem_mem hi')
      have hnm : l[i] ∉ l.take i := nodup_take hl.nd (List.getElem?_eq_getElem hi')
      have ix : ∀ {Z : Hp → Prop}, EP K [] H Z (tOp (rIx K) (tVar 0) (tVar 3)) [.val sq, .val (iD n), .own p ((l.take i).map iD), .val (.int i)] (iD l[i]) := ep_op (ep_var rfl) (ep_var (d := iD i) rfl) (hs.ix e1)
      refine sd_seq (sd_if (et_or (et_not (et_B (ep_call (ea_cons ix (ea_cons (ep_var rfl) ea_nil)) ⟨iD l[i], n, rfl, rfl, rfl⟩))) fun _ => et_test (ep_op ix (ep_own rfl) in_own)) (fun h => ?_) (fun h => sd_go ?_))
      · rw [isTh_nat, decide_eq_true hlt, decide_eq_false hnm] at h
        cases h
      · refine sd_app (p := p) rfl ix rfl (by rw [List.length_map, List.length_take]; have := hl.len; omega) (sd_lp trivial ?_)
        rw [List.take_add_one, List.getElem?_eq_getElem hi']
        simp only [Option.toList, List.map_append, List.map_cons, List.map_nil]
        exact .eq (.eq (.eq (.no .nil)))
    · have e2 : ((l.length : Int)).toNat = l.length := by omega
      rw [e2, List.take_length]
      refine sd_ret (ep_is (ep_cb (ea_cons (EF.p (ef_cb (ea_cons (ep_own rfl) ea_nil) rf_sortedN)) ea_nil) rc_tupleL) ?_) o.rt
      rw [tD_eq]
  · rintro ds C m ⟨rfl, n, hn, hq⟩ De o
    rcases hq with ⟨rfl, rfl⟩ | ⟨l, e, r, sq, hl, hr2, he, hbad, hs, rfl, rfl⟩
    · refine sd_seq (sd_drop (ep_call (ea_cons (ep_var rfl) ea_nil) ⟨n, hn, rfl, rfl⟩) (sd_go ?_))
      refine sd_seq (sd_if (et_not (et_B (ep_isiT (d := .non) (ty := "NoneType") (r2 := false) (r3 := false) (ep_var rfl) rfl (by decide +kernel) (by decide +kernel)))) (fun h => ?_) (fun h => ?_))
      · exact sd_raise (ea_cons (ep_un (x := .int 1) ep_int r1_neg) ea_nil) (by decide) (wx_of o)
      · cases h
    · obtain ⟨ty, ht, hty⟩ := hs.ty
      obtain ⟨_, _, k1, k2⟩ := kit_int (tyN_mem ht)
      refine sd_seq (sd_drop (ep_call (ea_cons (ep_var rfl) ea_nil) ⟨n, hn, rfl, rfl⟩) (sd_go ?_))
      refine sd_seq (sd_if (et_not (et_B (ep_isiT (ep_var rfl) ht k1 k2))) (fun h => ?_) (fun h => ?_))
      · rw [hty] at h
        cases h
      refine sd_go (sd_seq (sd_asgO (ef_lst ea_nil) rfl fun p => sd_go ?_))
      have hlen : ((l.map iD ++ e :: r).length : Int) = ((l.length + r.length + 1 : Nat) : Int) := by simp; omega
      refine sd_seq (sd_forRP (n := ((l.length + r.length + 1 : Nat) : Int)) (fun i => i ≤ l.length) (ea_cons (ep_is (ep_cb (ea_cons (ep_var rfl) ea_nil) hs.len) (by rw [hlen])) ea_nil) (by have := hl.len; omega) (fun i => [.val sq, .val (iD n), .own p ((l.take i).map iD), .no]) rfl (Nat.zero_le _) (fun i hi hp => ?_) (fun hp => by omega))
      by_cases hi' : i < l.length
      · have e1 : (l.map iD ++ e :: r)[i]? = some (iD l[i]) := by rw [List.getElem?_append_left (by simpa using hi'), List.getElem?_map, List.getElem?_eq_getElem hi']; rfl
        have hlt : l[i] < n := hl.lt _ (List.getElem_mem hi')
        have hnm : l[i] ∉ l.take i := nodup_take hl.nd (List.getElem?_eq_getElem hi')
        have ix : ∀ {Z : Hp → Prop}, EP K [] H Z (tOp (rIx K) (tVar 0) (tVar 3)) [.val sq, .val (iD n), .own p ((l.take i).map iD), .val (.int i)] (iD l[i]) := ep_op (ep_var rfl) (ep_var (d := iD i) rfl) (hs.ix e1)
        refine sd_seq (sd_if (et_or (et_not (et_B (ep_call (ea_cons ix (ea_cons (ep_var rfl) ea_nil)) ⟨iD l[i], n, rfl, rfl, rfl⟩))) fun _ => et_test (ep_op ix (ep_own rfl) in_own)) (fun h => ?_) (fun h => sd_go ?_))
        · rw [isTh_nat, decide_eq_true hlt, decide_eq_false hnm] at h
          cases h
        · refine sd_app (p := p) rfl ix rfl (by rw [List.length_map, List.length_take]; have := hl.len; omega) (sd_lp (by omega) ?_)
          rw [List.take_add_one, List.getElem?_eq_getElem hi']
          simp only [Option.toList, List.map_append, List.map_cons, List.map_nil]
          exact .eq (.eq (.eq (.no .nil)))
      · have hil : i = l.length := by omega
        subst hil
        have e1 : (l.map iD ++ e :: r)[l.length]? = some e := by rw [List.getElem?_append_right (by simp)]; simp
        have ix : ∀ {Z : Hp → Prop}, EP K [] H Z (tOp (rIx K) (tVar 0) (tVar 3)) [.val sq, .val (iD n), .own p ((l.take l.length).map iD), .val (.int l.length)] e := ep_op (ep_var rfl) (ep_var (d := iD l.length) rfl) (hs.ix e1)
        have raise : ∀ {Z : Hp → Prop} {D' : Ends}, SD K [] H Z (fun _ σ H => tExc C (tCons (tVar 3) tNil) σ H fun cls d H' => E cls d H') D' [.val sq, .val (iD n), .own p ((l.take l.length).map iD), .val (.int l.length)] := sd_raise (ea_cons (ep_var rfl) ea_nil) (by have := hl.len; omega) (wx_of o)
        rcases hbad with hb | ⟨x, hx, rfl⟩
        · refine sd_seq (sd_if (b := true) (et_is (et_or (c := false) (et_not (et_B (ep_call (ea_cons ix (ea_cons (ep_var rfl) ea_nil)) ⟨e, n, he, rfl, rfl⟩))) fun h => by rw [hb] at h; cases h) (by rw [hb]; rfl)) (fun h => raise) (fun h => by cases h))
        · refine sd_seq (sd_if (et_or (et_not (et_B (ep_call (ea_cons ix (ea_cons (ep_var rfl) ea_nil)) ⟨iD x, n, rfl, rfl, rfl⟩))) fun _ => et_test (ep_op ix (ep_own rfl) in_own)) (fun h => raise) (fun h => ?_))
          rw [List.take_length, decide_eq_true hx, Bool.or_true] at h
          cases h
end
end Y
set_option Elab.async false
set_option linter.all false
set_option autoImplicit false
set_option maxRecDepth 100000
set_option maxHeartbeats 4000000
namespace Y
open PySem L2
/-- the class Family -/
structure FamC (K : PySem.W.Frag) (mg : Str → Option Value) (C : Addr) : Prop where
  ob : ObjC K C
  nt : NoAttr K C "things"
  nl : NoAttr K C "lots"
  m : mg "Family" = some (.ref C)
def famD (C : Addr) (n : Nat) (ls : List (List Nat)) : D := .ins C ["things", "lots"] [iD n, tsD ls]
/-- what a family is made of -/
structure InOk (n : Nat) (ls : List (List Nat)) : Prop where
  n1 : 1 ≤ n
  n2 : n ≤ 60
  ne : ls ≠ []
  len : ls.length < 20000
  lne : ∀ l ∈ ls, l ≠ []
  asc : ∀ l ∈ ls, KM.Asc l
  lt : ∀ l ∈ ls, ∀ x ∈ l, x < n
theorem asc_len : ∀ {l : List Nat} {n : Nat}, KM.Asc l → (∀ x ∈ l, x < n) → l.length ≤ n := fun {l n} a h => by
  have e : l = (List.range n).filter (fun x => decide (x ∈ l)) := KM.asc_ext a ((KM.range_asc n).filter _) fun x => by
    rw [List.mem_filter, List.mem_range, decide_eq_true_iff]
    exact ⟨fun hx => ⟨h x hx, hx⟩, fun hx => hx.2⟩
  have := List.length_filter_le (fun x => decide (x ∈ l)) (List.range n)
  rw [← e, List.length_range] at this
  exact this
theorem InOk.lots {n : Nat} {ls : List (List Nat)} (h : InOk n ls) : Lots ls := ⟨h.len, fun l hl => ⟨fun x hx => by have := h.lt l hl x hx; have := h.n2; omega, by have := asc_len (h.asc l hl) (h.lt l hl); have := h.n2; omega⟩, h.asc, h.lne⟩
theorem InOk.row {n : Nat} {ls : List (List Nat)} (h : InOk n ls) {l : List Nat} (hl : l ∈ ls) : Row n l := ⟨by have := asc_len (h.asc l hl) (h.lt l hl); have := h.n2; omega, (h.asc l hl).imp fun h => Nat.ne_of_lt h, h.lt l hl⟩
theorem sortN_asc {l : List Nat} (h : KM.Asc l) : KM.sortN l = l := by
  unfold KM.sortN
  exact List.mergeSort_of_pairwise (h.imp fun {a b} hab => decide_eq_true (Nat.le_of_lt hab))
/-- named defs that may raise; methods that may raise -/
structure ClX (P : Program) (w : World) (K : PySem.W.Frag) (mg : Str → Option Value) (base : Heap) (k : Nat) (x : Str) (sp : Sp) : Prop where
  ex : ∃ (f : Addr) (fd : FuncData) (ps : List Str), FnOk P w K mg base (L2.CX P w) k f fd ps sp ∧ mg x = some (.ref f) ∧ PySem.W.keepIn K (.ref f) = true ∧ Binds K fd ps []
structure ClM (P : Program) (w : World) (K : PySem.W.Frag) (mg : Str → Option Value) (base : Heap) (k : Nat) (C : Addr) (m : Str) (sp : Sp) : Prop where
  ex : ∃ (f : Addr) (fd : FuncData) (ps : List Str), FnOk P w K mg base (L2.CX P w) k f fd ps sp ∧ Meth K C m f ∧ Binds K fd ps []
structure ClI (P : Program) (w : World) (K : PySem.W.Frag) (mg : Str → Option Value) (base : Heap) (k : Nat) (C : Addr) (x : Str) (sp : Sp) : Prop where
  ex : ∃ (f : Addr) (fd : FuncData) (ps : List Str), FnOk P w K mg base CX0 k f fd ps sp ∧ Mk K C f ∧ mg x = some (.ref C) ∧ Binds K fd ps []
/-- an operator of the class at C -/
structure ClO (P : Program) (w : World) (K : PySem.W.Frag) (mg : Str → Option Value) (base : Heap) (k : Nat) (C : Addr) (m : Str) (sp : Sp) : Prop where
  ex : ∃ (f : Addr) (fd : FuncData) (ps : List Str), FnOk P w K mg base CX0 k f fd ps sp ∧ PySem.W.findIn K (.ref C) m = some (some (.ref f)) ∧ PySem.W.isFn K (.ref f) = true ∧ Binds K fd ps []
section
variable {P : Program} {w : World} {K : PySem.W.Frag} {mg : Str → Option Value} {base : Heap} {k j : Nat} {x m : Str} {C : Addr} {sp : Sp}
theorem ClX.cl (c : ClX P w K mg base k x sp) : Cl P w K mg base k x sp := by
  obtain ⟨f, fd, ps, F, h⟩ := c.ex
  exact ⟨f, fd, ps, .inr F, h⟩
end
section
variable {X : Cx} {k j : Nat} {C : Addr} {x m : Str} {sp : Sp} {p pos apos : Pos} {e o : Expr} {es : List Expr} {ta : TE} {t : TA} {W : L2.WX}
theorem pe_clX (c : ClX X.prog X.w X.K X.mg X.base k x sp) (hr : Room j X.A) (hk : k ≤ j) (hg : Gl X x) (tk : L2.Takes X W) (ha : PA X (e :: es) t)
    (hdb : (x == ("__debug__" : Str)) = false := by decide) (he : starEach (e :: es) X.env = (false, eval e X.env) :: starEach es X.env := by rfl) (hpl : (backTo pos (starEach es X.env)).any (·.1) = false := by rfl) :
    PE X (.Call (.Name x p) (e :: es) [] pos) (tCallS sp (WE W) t) := by
  obtain ⟨f, fd, ps, F, hm, kp, b⟩ := c.ex
  exact pe_callS F (hr.mono hk) hg hm kp b (passAt tk) ha hdb he hpl
theorem pe_clM {pl : Sem Bool} (c : ClM X.prog X.w X.K X.mg X.base k C m sp) (hc : Cls X.K C) (hr : Room j X.A) (hk : k ≤ j) (tk : L2.Takes X W) (he : PE X o ta) (ha : PA X (e :: es) t)
    (hst : starEach (e :: es) X.env = (false, eval e X.env) :: starEach es X.env := by rfl) (hpl : (backTo pos (starEach es X.env)).any (·.1) = false := by rfl)
    (ht : eval (.Call (.Attribute o m apos) (e :: es) [] pos) X.env = (do
      let ov ← eval o X.env
      standAt apos.atName
      let (fm, first) ← holding [ov] (getMethod ov m pl)
      callWith pos fm first (backTo pos (starEach (e :: es) X.env)) (backToKw pos (keywordEach [] X.env))) := by rfl) :
    PE X (.Call (.Attribute o m apos) (e :: es) [] pos) (tMeS C m sp (WE W) ta t) := by
  obtain ⟨f, fd, ps, F, hm, b⟩ := c.ex
  exact pe_meS he hc hm F (hr.mono hk) b (passAt tk) ha hst hpl ht
theorem pe_clI (c : ClI X.prog X.w X.K X.mg X.base k C x sp) (hr : Room j X.A) (hk : k + 1 ≤ j) (hg : Gl X x) (ha : PA X (e :: es) t)
    (hdb : (x == ("__debug__" : Str)) = false := by decide) (he : starEach (e :: es) X.env = (false, eval e X.env) :: starEach es X.env := by rfl) (hpl : (backTo pos (starEach es X.env)).any (·.1) = false := by rfl) :
    PE X (.Call (.Name x p) (e :: es) [] pos) (tMake C sp [] E0 t) := by
  obtain ⟨f, fd, ps, F, M, hm, b⟩ := c.ex
  exact pe_make M F (hr.mono hk) hg hm b .nil pass0 ha hdb he hpl
theorem un_clO (c : ClO X.prog X.w X.K X.mg X.base k C "__invert__" sp) (hr : Room j X.A) (hk : k ≤ j) : UnR X (unaryOp .Invert) (rInv C sp) := by
  obtain ⟨f, fd, ps, F, hs, hf, b⟩ := c.ex
  exact un_invO hs hf F (hr.mono hk) b
theorem op_clO (c : ClO X.prog X.w X.K X.mg X.base k C "__eq__" sp) (hn : PySem.W.notFirst X.K C (.ref C) = true) (hr : Room j X.A) (hk : k ≤ j) : OpR X (compareOp .Eq) (rEqO X.K C sp) := by
  obtain ⟨f, fd, ps, F, hs, hf, b⟩ := c.ex
  exact op_eqO hn hs hf F (hr.mono hk) b
end
section
variable {P : Program} {w : World} {K : PySem.W.Frag} {mg : Str → Option Value} {base : Heap}
/-! ask_things -/
abbrev s_ask_things : Stmt := topS 31
abbrev N_ask_things : List Str := ["things"]
theorem sc_ask_things : FnScope N_ask_things ["things"] (defScope s_ask_things) := ⟨rfl, rfl, rfl, by decide +kernel, rfl, by decide +kernel, by decide +kernel⟩
def p_ask_things (ds : List D) (d : D) : Prop := ∃ n : Nat, 1 ≤ n ∧ n ≤ 60 ∧ ds = [iD n] ∧ d = .non
theorem ok_ask_things {f : Addr} {fd : FuncData} {tM : Tok} (F : Fun K "ask_things" "ask_things" s_ask_things f fd) (T : Txt mg) (hM : mg "MOST_THINGS" = some (.int 60 tM)) (c_is_integer : Cl P w K mg base 1 "is_integer" (Pure K p_is_integer)) : FnOk P w K mg base CX0 2 f fd ["things"] (Pure K p_ask_things) := by
  refine pure_ok F sc_ask_things (fun ds d h => by obtain ⟨_, _, _, rfl, _⟩ := h; rfl) (by decide) fun cdv A outer s H E hr => ?_
  refine ⟨_, (pss_one (ps_if (pw_or (pt_not (pt_val (pe_cl c_is_integer hr (by decide) (by rfl) (pa_cons (pv 0) (pa_cons pe_int pa_nil))))) (pw_or1 (pt_cmpR op_gt (pv 0) (pe_glob (v := .int 60) (by rfl) hM ⟨_, rfl⟩) (nomark _)))).pt pss_never pss_nil)), ?_⟩
  rintro ds d ⟨n, hn, hn2, rfl, rfl⟩ De o
  have e : isInt (iD n) 1 = true := by simp [isInt, iD]; omega
  have e2 : decide ((60 : Int) < (n : Int)) = false := decide_eq_false (by omega)
  refine sd_if (et_or (et_not (et_B (ep_call (ea_cons (ep_var rfl) (ea_cons ep_int ea_nil)) ⟨iD n, 1, rfl, rfl, rfl⟩))) fun _ => et_test (ep_op (ep_var rfl) ep_int (r2_cmp (g := fun i j => decide (j < i))))) (fun h => ?_) (fun h => ?_)
  · rw [e, e2] at h
    cases h
  · exact sd_end o
/-! checked_lot -/
abbrev s_checked_lot : Stmt := topS 32
abbrev N_checked_lot : List Str := ["lot", "place", "things", "found"]
theorem sc_checked_lot : FnScope N_checked_lot ["lot", "place", "things"] (defScope s_checked_lot) := ⟨rfl, rfl, rfl, by decide +kernel, rfl, by decide +kernel, by decide +kernel⟩
def p_checked_lot (ds : List D) (d : D) : Prop := ∃ (l : List Nat) (n i : Nat), 1 ≤ n ∧ Row n l ∧ l ≠ [] ∧ ds = [tD l, iD i, iD n] ∧ d = tD (KM.sortN l)
theorem ok_checked_lot {f : Addr} {fd : FuncData} {CB : Addr} (F : Fun K "checked_lot" "checked_lot" s_checked_lot f fd) (T : Txt mg) (c_set_of : Cl P w K mg base 3 "set_of" (PureX K p_set_of (q_set_of CB))) : FnOk P w K mg base CX0 4 f fd ["lot", "place", "things"] (Pure K p_checked_lot) := by
  refine pure_ok F sc_checked_lot (fun ds d h => by obtain ⟨_, _, _, _, _, _, rfl, _⟩ := h; rfl) (by decide) fun cdv A outer s H E hr => ?_
  refine ⟨_, (pss_cons (ps_try_thru0 (pss_one (ps_set (i := 3) sc_checked_lot.nd rfl (Or.inl rfl) (pe_cl c_set_of hr (by decide) (by rfl) (pa_cons (pv 0) (pa_cons (pv 2) pa_nil))))))
    (pss_cons (ps_if (pt_cmpR op_eq (pe_callB (r := rLen K) call_lenY (by rfl) T.len PySem.boot_len (pa_cons (pv 3) pa_nil)) pe_int (nomark _)) pss_never pss_nil)
    (pss_one (ps_ret (pv 3))))), ?_⟩
  rintro ds d ⟨l, n, i, hn, hl, hne, rfl, rfl⟩ De o
  refine sd_seq (sd_asg (ep_callX (ea_cons (ep_var rfl) (ea_cons (ep_var rfl) ea_nil)) ⟨l, n, tD l, hn, hl, .inl (tD_eq l), rfl, rfl⟩) (tD_im _) (sd_go ?_))
  have hz : (KM.sortN l).length ≠ 0 := by
    rw [(KM.sortN_perm l).length_eq]
    exact fun z => hne (List.length_eq_zero_iff.mp z)
  refine sd_seq (sd_if (et_test (ep_op (ep_is (ep_cb (ea_cons (ep_var (d := .tup ((KM.sortN l).map iD)) (by rw [← tD_eq]; rfl)) ea_nil) rc_lenTn) rfl) ep_n0 r2_eqN)) (fun h => ?_) (fun h => sd_go ?_))
  · exact absurd (by simpa using h) hz
  · exact sd_ret (ep_var rfl) o.rt
/-! Family.init -/
abbrev s_Family_init : Stmt := inClass (topS 34) 0
abbrev N_Family_init : List Str := ["self", "things", "lots", "found", "place"]
theorem sc_Family_init : FnScope N_Family_init ["self", "things", "lots"] (defScope s_Family_init) := ⟨rfl, rfl, rfl, by decide +kernel, rfl, by decide +kernel, by decide +kernel⟩
def p_init (ds : List D) (ns : List Str) (l : List D) : Prop := ∃ (n : Nat) (ls : List (List Nat)) (s : D), InOk n ls ∧ Seq s (ls.map tD) ∧ ds = [iD n, s] ∧ ns = (["things", "lots"] : List Str) ∧ l = [iD n, tsD (KM.leastLots ls)]
theorem Seq.clean {s : D} {l : List D} (h : Seq s l) (im : imAll l = true) : True := trivial
theorem ok_init {f C : Addr} {fd : FuncData} (F : Fun K "__init__" "Family.__init__" s_Family_init f fd) (T : Txt mg) (fc : FamC K mg C) (c_ask_things : Cl P w K mg base 2 "ask_things" (Pure K p_ask_things)) (c_checked_lot : Cl P w K mg base 4 "checked_lot" (Pure K p_checked_lot))
    (c_least_lots : Cl P w K mg base 3 "least_lots" (Pure K p_least_lots)) : FnOk P w K mg base CX0 5 f fd ["self", "things", "lots"] (InitP K C p_init) := by
  refine init_ok F sc_Family_init (fun ds ns l h => by obtain ⟨_, _, _, _, _, rfl, _⟩ := h; rfl) (by decide) fun cdv A outer s H E hr => ?_
  refine ⟨_, (pss_cons (ps_expr (pe_cl c_ask_things hr (by decide) (by rfl) (pa_cons (pv 1) pa_nil)))
    (pss_cons (ps_if (pt_not (pt_val (pe_callB (r := rIsiT K) call_isiT (by rfl) T.isinstance (by decide +kernel) (pa_cons (pv 2) (pa_cons (pe_tup (pa_cons (pe_bltn (v := .ty "list") (by rfl) T.list (by decide +kernel) rfl) (pa_cons (pe_bltn (v := .ty "tuple") (by rfl) T.tuple (by decide +kernel) rfl) pa_nil))) pa_nil))))) pss_never pss_nil)
    (pss_cons (ps_setLc (i := 3) (own := [("place", 4)]) (g := gName 4) rfl sc_Family_init.nd rfl rfl (sw_true rfl rfl rfl (by decide +kernel)) (pi_range1 (by rfl) T.range (pa_cons (pe_callB (r := rLen K) call_lenY (by rfl) T.len PySem.boot_len (pa_cons (pv 2) pa_nil)) pa_nil)) (blkOk_by (N := N_Family_init) (sc := defScope s_Family_init) (by decide +kernel)) (fun _ _ _ _ _ => pg_name (i := 4) sc_Family_init.nd rfl (Or.inl rfl)) (fun _ _ _ _ _ => pts_nil) (fun _ _ _ _ _ => (pe_cl c_checked_lot hr (by decide) (by rfl) (pa_cons (pe_ix (r := rIx K) ix_seq (pv 2) (pv 4) (fun _ _ => rfl)) (pa_cons (pv 4) (pa_cons (pv 1) pa_nil))))))
    (pss_cons (ps_if (pt_cmpR op_eq (pe_callB (r := rLen K) call_lenY (by rfl) T.len PySem.boot_len (pa_cons (pv 3) pa_nil)) pe_int (nomark _)) pss_never pss_nil)
    (pss_cons (ps_fld (pv 0) (pv 1) rfl)
    (pss_one (ps_fld (pv 0) (pe_cl c_least_lots hr (by decide) (by rfl) (pa_cons (pv 3) pa_nil)) rfl))))))), ?_⟩
  rintro ds ns l a dx ⟨n, ls, sq, hi, hs, rfl, rfl, rfl⟩ De o
  obtain ⟨ty, ht, hty⟩ := hs.ty
  obtain ⟨_, _, k1, k2⟩ := kit_int (tyN_mem ht)
  refine sd_seq (sd_drop (ep_call (ea_cons (ep_var rfl) ea_nil) ⟨n, hi.n1, hi.n2, rfl, rfl⟩) (sd_go ?_))
  refine sd_seq (sd_if (et_not (et_B (ep_isiT (ep_var rfl) ht k1 k2))) (fun h => ?_) (fun h => ?_))
  · rw [hty] at h
    cases h
  refine sd_go ?_
  have hl2 := hi.len
  have e0 : EF K [a] H (ZI K a C dx [] []) (tLc (iRng1 (tCons (tCB (rLen K) (tCons (tVar 2) tNil)) tNil)) (gName 4) tYes (tCall (Pure K p_checked_lot) [] E0 (tCons (tOp (rIx K) (tVar 2) (tVar 4)) (tCons (tVar 4) (tCons (tVar 1) tNil)))) [4]) (entry N_Family_init [.adr a, iD n, sq]) (ls.map tD) := by
    have h1 := ef_lcR1 (K := K) (B := [a]) (H0 := H) (Z := ZI K a C dx [] []) (E := entry N_Family_init [.adr a, iD n, sq]) (j := 4) (n := (ls.length : Int)) (te := tCall (Pure K p_checked_lot) [] E0 (tCons (tOp (rIx K) (tVar 2) (tVar 4)) (tCons (tVar 4) (tCons (tVar 1) tNil)))) (fun i => tD (ls.getD i [])) (ea_cons (ep_is (ep_cb (ea_cons (ep_var (i := 2) rfl) ea_nil) hs.len) (by rw [List.length_map])) ea_nil) (by omega) (fun i hi' => ?_) (fun _ _ => tD_im _)
    · have e3 : (List.range ((ls.length : Int)).toNat).map (fun i => tD (ls.getD i [])) = ls.map tD := by
        have : ((ls.length : Int)).toNat = ls.length := by omega
        rw [this]
        refine List.ext_getElem (by simp) fun i h1 h2 => ?_
        have hlt : i < ls.length := by simpa using h2
        simp [List.getD, List.getElem?_eq_getElem hlt]
      rw [e3] at h1
      exact h1
    · have hlt : i < ls.length := by omega
      have e1 : (ls.map tD)[i]? = some (tD ls[i]) := by rw [List.getElem?_map, List.getElem?_eq_getElem hlt]; rfl
      have e2 : ls.getD i [] = ls[i] := by simp [List.getD, List.getElem?_eq_getElem hlt]
      have hm := List.getElem_mem hlt
      have h3 : KM.sortN ls[i] = ls[i] := sortN_asc (hi.asc _ hm)
      rw [e2]
      refine ep_call (ea_cons (ep_op (ep_var rfl) (ep_var (d := iD i) rfl) (hs.ix e1)) (ea_cons (ep_var (d := iD i) rfl) (ea_cons (ep_var rfl) ea_nil))) ⟨ls[i], n, i, hi.n1, hi.row hm, hi.lne _ hm, rfl, by rw [h3]⟩
  refine sd_seq (sd_asgL e0 (imAll_tD _) (sd_go ?_))
  refine sd_seq (sd_if (et_test (ep_op (ep_is (ep_cb (ea_cons (ep_var (d := .lst (ls.map tD)) rfl) ea_nil) rc_lenLn) rfl) ep_n0 r2_eqN)) (fun h => ?_) (fun h => sd_go ?_))
  · exact absurd (by simpa using h) (fun z => hi.ne (List.length_eq_zero_iff.mp z))
  have nbT : ∀ l : List Nat, (tD l).nob = true := fun l => by
    rw [tD_eq]
    show nobAll _ = true
    exact nobAll_iff.mpr fun d hd => by obtain ⟨x, _, rfl⟩ := List.mem_map.mp hd; rfl
  have nbL : ∀ ls : List (List Nat), nobAll (ls.map tD) = true := fun ls => nobAll_iff.mpr fun d hd => by obtain ⟨x, _, rfl⟩ := List.mem_map.mp hd; exact nbT x
  have nbS : sq.nob = true := by
    rcases hs with rfl | rfl
    · exact nbL ls
    · exact nbL ls
  have hE : ∀ s ∈ (entry N_Family_init [.adr a, iD n, sq]).set 3 (.val (.lst (ls.map tD))), nobS s = true := fun s hs => by
    have : s ∈ [Slot.val (.adr a), .val (iD n), .val sq, .val (.lst (ls.map tD)), .no] := hs
    simp only [List.mem_cons, List.not_mem_nil, or_false] at this
    rcases this with rfl | rfl | rfl | rfl | rfl
    · rfl
    · rfl
    · exact nbS
    · exact nbL ls
    · rfl
  refine sd_seq (sd_fld (ep_var rfl) (ep_var (d := iD n) rfl) fc.ob.cl fc.nt hE rfl rfl rfl (by simp) (by simp) (sd_go ?_))
  refine sd_fld (ep_var rfl) (ep_call (ea_cons (ep_var (d := lsD ls) rfl) ea_nil) ⟨ls, hi.lots, rfl, rfl⟩) fc.ob.cl fc.nl hE (tsD_im _) (nbL _) rfl (by decide) (by simp) ?_
  exact sd_endI o
/-! Family.eq -/
abbrev s_Family_eq : Stmt := inClass (topS 34) 4
abbrev N_Family_eq : List Str := ["self", "other"]
theorem sc_Family_eq : FnScope N_Family_eq ["self", "other"] (defScope s_Family_eq) := ⟨rfl, rfl, rfl, by decide +kernel, rfl, by decide +kernel, by decide +kernel⟩
def p_eq (C : Addr) (ds : List D) (d : D) : Prop := ∃ (n n' : Nat) (ls ls' : List (List Nat)), ds = [famD C n ls, famD C n' ls'] ∧ d = .bl (n == n' && decide (ls = ls'))
theorem ok_eq {f C : Addr} {fd : FuncData} (F : Fun K "__eq__" "Family.__eq__" s_Family_eq f fd) (T : Txt mg) (fc : FamC K mg C) : FnOk P w K mg base CX0 1 f fd ["self", "other"] (Pure K (p_eq C)) := by
  refine pure_ok F sc_Family_eq (fun ds d h => by obtain ⟨_, _, _, _, rfl, _⟩ := h; rfl) (by decide) fun cdv A outer s H E hr => ?_
  have hu := hr.units
  refine ⟨_, (pss_one (ps_ret (pe_and (pe_callB (r := rIsi K) call_isi (by rfl) T.isinstance (by decide +kernel) (pa_cons (pv 1) (pa_cons (pe_glob (v := .ref C) (by rfl) fc.m rfl) pa_nil))) (pe_and (pe_cmpR op_eq (pe_fld (pv 0) rfl) (pe_fld (pv 1) rfl) (nomark _)) (pe_one (pe_cmpR (r := rEqD K) (op_eqD hu) (pe_fld (pv 0) rfl) (pe_fld (pv 1) rfl) (nomark _))))))), ?_⟩
  rintro ds d ⟨n, n', ls, ls', rfl, rfl⟩ De o
  refine sd_ret (ep_is (ep_andV (c := (n == n' && decide (ls = ls'))) (ep_isiO (ep_var rfl) fc.ob) fun _ => ep_andV (ep_op (ep_fld (ep_var rfl) fc.ob.cl fc.nt rfl) (ep_fld (ep_var rfl) fc.ob.cl fc.nt rfl) r2_eqN) fun _ => ep_op (ep_fld (ep_var rfl) fc.ob.cl fc.nl rfl) (ep_fld (ep_var rfl) fc.ob.cl fc.nl rfl) (r2_eqD (lsD_cmp ls).2 (lsD_cmp ls').2 ?_)) (by simp)) o.rt
  rw [decide_eq_true_iff]
  unfold tsD
  rw [D.tup.injEq, map_tD_inj]
/-! Family.invert -/
abbrev s_Family_invert : Stmt := inClass (topS 34) 10
abbrev N_Family_invert : List Str := ["self"]
theorem sc_Family_invert : FnScope N_Family_invert ["self"] (defScope s_Family_invert) := ⟨rfl, rfl, rfl, by decide +kernel, rfl, by decide +kernel, by decide +kernel⟩
/-- ~ may be asked -/
structure InvOk (n : Nat) (ls : List (List Nat)) : Prop where
  i : InOk n ls
  kept : ∀ i, (keptAt ls i).length < 20000
  o : InOk n (KM.blockerLots ls)
def p_invert (C : Addr) (ds : List D) (d : D) : Prop := ∃ (n : Nat) (ls : List (List Nat)), InvOk n ls ∧ ds = [famD C n ls] ∧ d = famD C n (KM.leastLots (KM.blockerLots ls))
theorem ok_invert {f C : Addr} {fd : FuncData} (F : Fun K "__invert__" "Family.__invert__" s_Family_invert f fd) (T : Txt mg) (fc : FamC K mg C) (c_Family : ClI P w K mg base 5 C "Family" (InitP K C p_init)) (c_blocker_lots : Cl P w K mg base 3 "blocker_lots" (Pure K p_blocker_lots)) :
    FnOk P w K mg base CX0 7 f fd ["self"] (Pure K (p_invert C)) := by
  refine pure_ok F sc_Family_invert (fun ds d h => by obtain ⟨_, _, _, rfl, _⟩ := h; rfl) (by decide) fun cdv A outer s H E hr => ?_
  refine ⟨_, (pss_one (ps_ret (pe_clI c_Family hr (by decide) (by rfl) (pa_cons (pe_fld (pv 0) rfl) (pa_cons (pe_cl c_blocker_lots hr (by decide) (by rfl) (pa_cons (pe_fld (pv 0) rfl) pa_nil)) pa_nil))))), ?_⟩
  rintro ds d ⟨n, ls, hi, rfl, rfl⟩ De o
  exact sd_ret (ep_make (ea_cons (ep_fld (ep_var rfl) fc.ob.cl fc.nt rfl) (ea_cons (ep_call (ea_cons (ep_fld (ep_var rfl) fc.ob.cl fc.nl rfl) ea_nil) ⟨ls, hi.i.lots, hi.kept, rfl, rfl⟩) ea_nil)) ⟨n, _, _, hi.o, .inl rfl, rfl, rfl, rfl⟩) o.rt
/-! Family.holds -/
abbrev s_Family_holds : Stmt := inClass (topS 34) 14
abbrev N_Family_holds : List Str := ["self", "things", "mask", "lot"]
theorem sc_Family_holds : FnScope N_Family_holds ["self", "things"] (defScope s_Family_holds) := ⟨rfl, rfl, rfl, by decide +kernel, rfl, by decide +kernel, by decide +kernel⟩
def holdsM (ls : List (List Nat)) (f : List Nat) : Bool := ls.any fun l => KM.maskOf l &&& KM.maskOf (KM.sortN f) == KM.maskOf l
def p_holds (C : Addr) (ds : List D) (d : D) : Prop := ∃ (n : Nat) (ls : List (List Nat)) (f : List Nat) (s : D), InOk n ls ∧ Row n f ∧ Seq s (f.map iD) ∧ ds = [famD C n ls, s] ∧ d = .bl (holdsM ls f)
def q_holds (C CB : Addr) (ds : List D) (C' : Addr) (m : Int) : Prop := ∃ (n : Nat) (ls : List (List Nat)) (s : D), InOk n ls ∧ ds = [famD C n ls, s] ∧ q_set_of CB [s, iD n] C' m
theorem ok_holds {f C CB : Addr} {fd : FuncData} (F : Fun K "holds" "Family.holds" s_Family_holds f fd) (T : Txt mg) (fc : FamC K mg C) (c_mask_of : Cl P w K mg base 1 "mask_of" (Pure K p_mask_of)) (c_set_of : ClX P w K mg base 3 "set_of" (PureX K p_set_of (q_set_of CB))) :
    FnOk P w K mg base (L2.CX P w) 4 f fd ["self", "things"] (PureX K (p_holds C) (q_holds C CB)) := by
  refine purex_ok F sc_Family_holds (fun ds h => by
    rcases h with ⟨d, _, _, _, _, _, _, _, rfl, _⟩ | ⟨_, _, _, _, _, _, rfl, _⟩ <;> rfl) (by decide) fun cdv A outer s H E hr => ?_
  have tk : L2.Takes (cxOf (L2.CX P w) P w K mg base N_Family_holds "Family.holds" (defScope s_Family_holds) f cdv A outer s H E) (fun cls d _ H => E cls d H) := takes_of rfl rfl rfl rfl
  refine ⟨_, (pss_cons (ps_set (i := 2) sc_Family_holds.nd rfl (Or.inr rfl) (pe_cl c_mask_of hr (by decide) (by rfl) (pa_cons (pe_clX c_set_of hr (by decide) (by rfl) tk (pa_cons (pv 1) (pa_cons (pe_fld (pv 0) rfl) pa_nil))) pa_nil)))
    (pss_one (ps_ret (pe_callB (r := rAny K) (cr_any rfl) (by rfl) T.any (by decide +kernel) (pa_cons (pe_lc (own := [("lot", 3)]) (g := gName 3) rfl sc_Family_holds.nd (pi_tup (pe_fld (pv 0) rfl)) (blkOk_by (N := N_Family_holds) (sc := defScope s_Family_holds) (by decide +kernel)) (fun _ _ _ _ _ => pg_name (i := 3) sc_Family_holds.nd rfl (Or.inl rfl)) (fun _ _ _ _ _ => pts_nil) (fun _ _ _ _ _ => (pe_cmpR op_eq (pe_op op_and (pe_cl c_mask_of hr (by decide) (by rfl) (pa_cons (pv 3) pa_nil)) (pv 2)) (pe_cl c_mask_of hr (by decide) (by rfl) (pa_cons (pv 3) pa_nil)) (nomark _)))) pa_nil))))), ?_, ?_⟩
  · rintro ds d ⟨n, ls, l, sq, hi, hl, hs, rfl, rfl⟩ De o
    have sm : Sm (KM.sortN l) := ⟨fun x hx => by
      have := hl.lt x ((KM.sortN_perm l).mem_iff.mp hx)
      have := hi.n2
      omega, by rw [(KM.sortN_perm l).length_eq]; exact hl.len⟩
    refine sd_seq (sd_asg (d := iD (KM.maskOf (KM.sortN l))) (ep_call (ea_cons (ep_callS (ea_cons (ep_var rfl) (ea_cons (ep_fld (ep_var rfl) fc.ob.cl fc.nt rfl) ea_nil)) ⟨l, n, sq, hi.n1, hl, hs, rfl, rfl⟩) ea_nil) ⟨KM.sortN l, sm, rfl, rfl⟩) rfl (sd_go ?_))
    have hz := hi.len
    refine sd_ret (ep_cb (ea_cons (EF.p (ef_lcT1 (c := tD) (ts := ls) (fun lot => .bl (KM.maskOf lot &&& KM.maskOf (KM.sortN l) == KM.maskOf lot)) (ep_fld (ep_var rfl) fc.ob.cl fc.nl rfl) (fun _ _ => tD_im _) (by omega)
      (fun lot hlot => ep_op (ep_op (ep_call (ea_cons (ep_var rfl) ea_nil) ⟨lot, hi.lots.sm lot hlot, rfl, rfl⟩) (ep_var rfl) r2_and) (ep_call (ea_cons (ep_var rfl) ea_nil) ⟨lot, hi.lots.sm lot hlot, rfl, rfl⟩) r2_eqN) (fun _ _ => rfl))) ea_nil) rc_anyL) o.rt
  · rintro ds C' m ⟨n, ls, sq, hi, rfl, hq⟩ De o
    exact sd_seq (sd_asgR (er_call (era_cons (er_callS (ea_cons (ep_var rfl) (ea_cons (ep_fld (ep_var rfl) fc.ob.cl fc.nt rfl) ea_nil)) hq (wx_of o)))))
end
end Y
set_option Elab.async false
set_option linter.all false
set_option autoImplicit false
set_option maxRecDepth 100000
set_option maxHeartbeats 4000000
namespace Y
open PySem L2
section
variable {P : Program} {w : World} {K : PySem.W.Frag} {mg : Str → Option Value} {base : Heap}
/-! pick -/
abbrev s_law_pick : Stmt := topS 43
abbrev N_law_pick : List Str := ["_law_draws_here", "_law_bound"]
theorem sc_law_pick : FnScope N_law_pick ["_law_draws_here", "_law_bound"] (defScope s_law_pick) := ⟨rfl, rfl, rfl, by decide +kernel, rfl, by decide +kernel, by decide +kernel⟩
def ok_p (ds : List D) : Prop := ∃ b : Nat, 1 ≤ b ∧ ds = [iD b]
def p_pick (ds : List D) (d : D) : Prop := ∃ b x : Nat, x < b ∧ ds = [iD b] ∧ d = iD x
abbrev PickP (K : PySem.W.Frag) : Sp := DrawP K ok_p p_pick
theorem sd_pop {p : Addr} {ns : List Int} {H : Hp} {Z : Hp → Prop} {De : Ends} {b : Nat} {y : Int} {ms : List Int} (hb : 1 ≤ b) (hns : ns = ms ++ [y]) (o : ∀ v H' d ns', Drw H H' p → H' p = some (iv ns') → Is K (hid [p] H') v d → p_pick [iD b] d → De.rt v H') :
    SD K [p] H Z (tRet (tOp (rI (fun _ j => 0 < j) fun i j => .int (i % j)) (tCB (fun xs H Q => (∃ i, xs = [.int i] ∧ Q (.int i) H) ∨ ∃ k, xs = [.bl k] ∧ Q (.int (if k then 1 else 0)) H) (tCons (tBM0 K "list" rPop (tVar 0)) tNil)) (tVar 1))) De (entryD N_law_pick p [iD b] ns) := fun σ H1 e => by
  have hd := ds_entry N_law_pick p [iD b]
  obtain ⟨h1, h2⟩ := e.dat hd
  obtain ⟨v, h3, h4⟩ := e.val 1 (iD b) rfl
  cases h4
  obtain ⟨w1, _⟩ := env_drw hd e
  have hx : (ns.map V.int)[(ns.map V.int).length - 1]? = some (V.int y) := by rw [hns]; simp
  refine ⟨.ref p, h1, .inl ⟨rfl, _, SqL.of h2⟩, p, _, _, rfl, rfl, h2, hx, .inl ⟨y, rfl, _, h3, y, (b : Int), rfl, rfl, by omega, ?_⟩⟩
  refine o _ _ (iD (y % b).toNat) (ns.dropLast) (w1.trans fun a o' n q => by rw [upd_ne n]; exact q) (by rw [upd_same, List.dropLast_eq_take, List.dropLast_eq_take, iv, List.map_take, List.length_map]) ?_ ⟨b, _, ?_, rfl, rfl⟩
  · have h0 : 0 ≤ y % b := Int.emod_nonneg y (by omega)
    have : (((y % b).toNat : Nat) : Int) = y % b := by omega
    unfold iD
    rw [this]
    exact .int _
  · have h0 : 0 ≤ y % b := Int.emod_nonneg y (by omega)
    have h1 : y % b < b := Int.emod_lt_of_pos y (by omega)
    omega
theorem ok_law_pick {f : Addr} {fd : FuncData} (F : Fun K "_law_pick" "_law_pick" s_law_pick f fd) (T : Txt mg) : FnOk P w K mg base CX0 1 f fd ["_law_draws_here", "_law_bound"] (PickP K) := by
  refine draw_ok F sc_law_pick (fun ds h => by obtain ⟨_, _, rfl⟩ := h; rfl) (by decide) fun cdv A outer s H E hr => ?_
  refine ⟨_, (pss_cons (ps_if (pt_cmpR op_eq (pe_callB (r := rLen K) call_lenY (by rfl) T.len PySem.boot_len (pa_cons (pv 0) pa_nil)) pe_int (nomark _)) (pss_one (ps_ret pe_int)) pss_nil)
    (pss_one (ps_ret (pe_op op_mod (pe_callTy call_int1 (by rfl) T.int (by decide +kernel) (pa_cons (pe_bm0 PySem.F.plainAttrs_list PySem.F.slot_list_pop PySem.F.type_list_pop mt_pop (pv 0)) pa_nil)) (pv 1))))), ?_⟩
  rintro ds p ⟨b, hb, rfl⟩ De o _ ns
  have hd := ds_entry N_law_pick p [iD b]
  refine sd_seq (sd_if (et_test (ep_op (ep_cb (ea_cons (ep_own (l := ns.map D.int) rfl) ea_nil) rc_lenLn) ep_n0 r2_eqN)) (fun h => ?_) (fun h => sd_go ?_))
  · exact sd_retD (d := iD 0) hd ec_int o ⟨b, 0, hb, rfl, rfl⟩
  · rcases List.eq_nil_or_concat ns with rfl | ⟨ms, y, hy⟩
    · cases h
    · exact sd_pop hb (by simpa using hy) o
end
end Y
set_option Elab.async false
set_option linter.all false
set_option autoImplicit false
set_option maxRecDepth 100000
set_option maxHeartbeats 4000000
namespace Y
open PySem L2
section
variable {K : PySem.W.Frag} {B : List Addr} {H0 : Hp} {Z : Hp → Prop} {S : List Int → List Slot} {i : Nat} {p : Addr} {te : TE}
theorem en_pick {b : Nat} (hd : DS S i p) (h : ∀ ns, EC K B H0 Z te (S ns) (iD b)) (hb : 1 ≤ b) : EN K B H0 Z (tCall (PickP K) [] E0 (tCons (tVar i) (tCons te tNil))) S p (fun d => ∃ x, x < b ∧ d = iD x) :=
  en_draw hd (fun ns => eac_cons (h ns) eac_nil) ⟨b, hb, rfl⟩ (fun d hp => by
    obtain ⟨b', x, hx, e, rfl⟩ := hp
    have : b' = b := by
      have := List.cons.inj e
      have h2 : D.int (b : Int) = D.int (b' : Int) := this.1
      injection h2 with h2
      omega
    subst this
    exact ⟨x, hx, rfl⟩) (.inl fun d hp => by
    obtain ⟨_, x, _, _, rfl⟩ := hp
    rfl)
theorem dt_pick {b : Nat} {r : R2} {k : Int} (hb : 1 ≤ b) (hr : ∀ (x : Nat) H (Q : VK), (∀ c, Q (.bl c) H) → r (.int x) (.int k) H Q) : DT (tTest (tOp r (tCall (PickP K) [] E0 (tCons (tVar i) (tCons (tC (.int b)) tNil))) (tC (.int k)))) i p := fun σ H ns h1 h2 Q q => by
  refine ⟨.ref p, h1, ⟨p, [.int b], [iD b], ns, rfl, h2, .one (.int _), ⟨b, hb, rfl⟩, fun v H' d ns' w hp hv hpre => ?_⟩⟩
  obtain ⟨b', x, _, _, rfl⟩ := hpre
  cases hv
  exact hr x H' _ fun c => ⟨c, rfl, q c H' ns' w hp⟩
theorem req_any {x : Nat} {k : Int} {H : Hp} {Q : VK} (h : ∀ c, Q (.bl c) H) : rEq (.int x) (.int k) H Q := ⟨rfl, h _⟩
theorem rgt_any {x : Nat} {k : Int} {H : Hp} {Q : VK} (h : ∀ c, Q (.bl c) H) : (rI0 fun i j => .bl (decide (j < i))) (.int x) (.int k) H Q := ⟨_, _, rfl, rfl, h _⟩
end
section
variable {P : Program} {w : World} {K : PySem.W.Frag} {mg : Str → Option Value} {base : Heap}
/-! chosen -/
abbrev s_law_chosen : Stmt := topS 54
abbrev N_law_chosen : List Str := ["_law_draws_here", "_law_pool", "_law_least_here", "_law_found", "_law_at"]
theorem sc_law_chosen : FnScope N_law_chosen ["_law_draws_here", "_law_pool", "_law_least_here"] (defScope s_law_chosen) := ⟨rfl, rfl, rfl, by decide +kernel, rfl, by decide +kernel, by decide +kernel⟩
def ok_ch (ds : List D) : Prop := ∃ (ls : List (List Nat)) (k : Nat), ls.length < 20000 ∧ k ≤ ls.length ∧ ds = [lsD ls, iD k]
def p_chosen (ds : List D) (d : D) : Prop := ∀ (ls : List (List Nat)) (k : Nat), ds = [lsD ls, iD k] → ∃ ls' : List (List Nat), ls'.Sublist ls ∧ k ≤ ls'.length ∧ d = lsD ls'
theorem iD_inj {a b : Nat} (h : iD a = iD b) : a = b := by
  unfold iD at h
  injection h with h
  omega
theorem lsD_inj {a b : List (List Nat)} (h : lsD a = lsD b) : a = b := by
  unfold lsD at h
  injection h with h
  exact map_tD_inj.mp h
theorem ok_law_chosen {f : Addr} {fd : FuncData} (F : Fun K "_law_chosen" "_law_chosen" s_law_chosen f fd) (T : Txt mg) (c_law_pick : Cl P w K mg base 1 "_law_pick" (PickP K)) : FnOk P w K mg base CX0 2 f fd ["_law_draws_here", "_law_pool", "_law_least_here"] (DrawP K ok_ch p_chosen) := by
  refine draw_ok F sc_law_chosen (fun ds h => by obtain ⟨_, _, _, _, rfl⟩ := h; rfl) (by decide) fun cdv A outer s H E hr => ?_
  refine ⟨_, (pss_cons (ps_set (i := 3) sc_law_chosen.nd rfl (Or.inl rfl) (pe_lst pa_nil))
    (pss_cons (ps_for PassesOwn.never rfl (pi_range1 (by rfl) T.range (pa_cons (pe_callB (r := rLen K) call_lenY (by rfl) T.len PySem.boot_len (pa_cons (pv 1) pa_nil)) pa_nil)) (pg_name (i := 4) sc_law_chosen.nd rfl (Or.inl rfl))
    (pss_one (ps_if (pw_or (pt_cmpR op_eq (pe_cl c_law_pick hr (by decide) (by rfl) (pa_cons (pv 0) (pa_cons pe_int pa_nil))) pe_int (nomark _)) (pw_or1 (pt_cmpR op_le (pe_op op_sub (pe_op op_add (pe_callB (r := rLen K) call_lenY (by rfl) T.len PySem.boot_len (pa_cons (pv 3) pa_nil)) (pe_callB (r := rLen K) call_lenY (by rfl) T.len PySem.boot_len (pa_cons (pv 1) pa_nil))) (pv 4)) (pv 2) (nomark _)))).pt (pss_one (ps_expr (pe_bm PySem.F.plainAttrs_list PySem.F.slot_list_append PySem.F.type_list_append mt_append (pv 3) (pa_cons (pe_ix (r := rIxL K) ix_list (pv 1) (pv 4) (fun _ _ => rfl)) pa_nil)))) pss_nil)))
    (pss_one (ps_ret (pv 3))))), ?_⟩
  rintro ds p ⟨ls, k, hz, hk, rfl⟩ De o _ ns
  refine sd_seq (sd_asgO (ef_lst ea_nil) rfl fun q => sd_go ?_)
  refine sd_seq (sd_forRW (n := (ls.length : Int)) (fun j E => ∃ (ns : List Int) (fd : List (List Nat)), E = [dr p ns, .val (lsD ls), .val (iD k), .own q (fd.map tD), .no] ∧ fd.Sublist (ls.take j) ∧ k ≤ fd.length + (ls.length - j))
    (ea_cons (ep_cb (ea_cons (ep_var (d := .lst (ls.map tD)) rfl) ea_nil) rc_lenLn) ea_nil) (by omega) ⟨ns, [], rfl, by simp, by simpa using hk⟩ ?_ ?_)
  · rintro j E hj ⟨ns, fd, rfl, hs, hc⟩
    have hj' : j < ls.length := by omega
    have hd : DS (fun ns => [dr p ns, .val (lsD ls), .val (iD k), .own q (fd.map tD), .val (.int j)]) 0 p := ⟨fun _ => rfl, fun _ _ => rfl⟩
    have fl : fd.length ≤ j := by have := hs.length_le; simp at this; omega
    have hop := ent_or (K := K) (B := [p]) (H0 := H) (Z := fun _ => True) (S := fun ns => [dr p ns, .val (lsD ls), .val (iD k), .own q (fd.map tD), .val (.int j)]) (p := p) (P1 := fun _ => True) (P2 := fun b => b = decide (((fd.length : Int) + (ls.length : Int)) - (j : Int) ≤ (k : Int))) (P := fun b => b = false → k ≤ fd.length + (ls.length - (j + 1)))
      (ent_ev (P1 := fun d => ∃ b, d = .bl b) (en_op (P1 := fun d => ∃ x, x < 2 ∧ d = iD x) (P2 := fun _ d => d = iD 1) hd (en_pick (b := 2) hd (fun _ => ec_int) (by decide)) (fun _ _ => en_ec (d := iD 1) (fun _ => ec_int) hd rfl) (fun x y hx hy => by
        obtain ⟨a, _, rfl⟩ := hx
        subst hy
        exact ⟨_, r2_eqN, rfl, _, rfl⟩)) (fun d hd => by obtain ⟨b, rfl⟩ := hd; exact ⟨b, rfl, trivial⟩))
      (ent_et (fun ns => et_test (ep_op (ep_op (ep_op (ep_cb (ea_cons (ep_own (i := 3) (l := fd.map tD) rfl) ea_nil) rc_lenLn) (ep_cb (ea_cons (ep_var (i := 1) (d := .lst (ls.map tD)) rfl) ea_nil) rc_lenLn) r2_int) (ep_var (i := 4) rfl) r2_int) (ep_var (i := 2) (d := iD k) rfl) (r2_cmp (g := fun i j => decide (i ≤ j))))) rfl)
      (And.intro (fun _ h => Bool.noConfusion h) (fun b _ hb h => by
        subst hb
        have := of_decide_eq_false h
        omega))
    refine sd_ifN hop (fun _ ns => ?_) (fun hf ns => ?_) ns
    · refine sd_app (p := q) (i := 3) (l := fd.map tD) rfl (ep_op (ep_var (d := .lst (ls.map tD)) rfl) (ep_var rfl) (r2_ixL (d := tD ls[j]) ?_)) (tD_im _) (by rw [List.length_map]; omega) ?_
      · unfold atI ixN
        rw [List.length_map, if_pos (by omega), if_pos (by omega)]
        simp [hj']
      · refine sd_lw (E' := [dr p ns, .val (lsD ls), .val (iD k), .own q ((fd ++ [ls[j]]).map tD), .no]) ⟨ns, fd ++ [ls[j]], rfl, ?_, by rw [List.length_append]; simp; omega⟩ ?_
        · rw [List.take_add_one, List.getElem?_eq_getElem hj']
          exact hs.append (List.Sublist.refl _)
        · rw [List.map_append]
          exact .eq (.eq (.eq (.eq (.no .nil))))
    · exact sd_lw (E' := [dr p ns, .val (lsD ls), .val (iD k), .own q (fd.map tD), .no]) ⟨ns, fd, rfl, hs.trans (List.take_sublist_take_left (by omega)), hf rfl⟩ (.eq (.eq (.eq (.eq (.no .nil)))))
  · rintro E ⟨ns, fd, rfl, hs, hc⟩
    have e2 : ((ls.length : Int)).toNat = ls.length := by omega
    rw [e2] at hs hc
    rw [List.take_length] at hs
    have hd : DS (fun ns => [dr p ns, .val (lsD ls), .val (iD k), .own q (fd.map tD), .no]) 0 p := ⟨fun _ => rfl, fun _ _ => rfl⟩
    refine sd_go (sd_retDO (S := fun ns => [dr p ns, .val (lsD ls), .val (iD k), .own q (fd.map tD), .no]) (i := 0) (j := 3) hd rfl (by decide) o ?_)
    intro ls' k' e
    have h1 := List.cons.inj e
    have h2 := lsD_inj h1.1
    have h3 := iD_inj (List.cons.inj h1.2).1
    subst h2 h3
    exact ⟨fd, hs, by omega, rfl⟩
end
end Y
set_option Elab.async false
set_option linter.all false
set_option autoImplicit false
set_option maxRecDepth 100000
set_option maxHeartbeats 4000000
namespace Y
open PySem L2
section
variable {P : Program} {w : World} {K : PySem.W.Frag} {mg : Str → Option Value} {base : Heap}
/-! mixed_lots -/
abbrev s_law_mixed_lots : Stmt := topS 55
abbrev N_law_mixed_lots : List Str := ["_law_draws_here", "_law_size", "_law_found", "_law_turn", "_law_lot", "_law_thing"]
theorem sc_law_mixed_lots : FnScope N_law_mixed_lots ["_law_draws_here", "_law_size"] (defScope s_law_mixed_lots) := ⟨rfl, rfl, rfl, by decide +kernel, rfl, by decide +kernel, by decide +kernel⟩
/-- a lot over n things -/
structure Lot1 (n : Nat) (l : List Nat) : Prop where
  asc : KM.Asc l
  ne : l ≠ []
  lt : ∀ x ∈ l, x < n
def ok_mix (ds : List D) : Prop := ∃ n : Nat, 1 ≤ n ∧ n ≤ 12 ∧ ds = [iD n]
def p_mixed (ds : List D) (d : D) : Prop := ∀ n : Nat, ds = [iD n] → ∃ fs : List (List Nat), fs ≠ [] ∧ (∀ l ∈ fs, Lot1 n l) ∧ d = lsD (KM.leastL fs)
/-- a lot as it is drawn -/
structure Lot0 (n : Nat) (l : List Nat) : Prop where
  ne : l ≠ []
  lt : ∀ x ∈ l, x < n
  len : l.length ≤ 100
  nd : l.head? ≠ l.getLast? → l.Nodup
theorem Lot1.sm {n : Nat} {l : List Nat} (h : Lot1 n l) (hn : n ≤ 60) : Sm l := ⟨fun x hx => by have := h.lt x hx; omega, by have := asc_len h.asc h.lt; omega⟩
theorem nd_at {n : Nat} {l : List Nat} (h : Lot0 n l) (e : l.head? ≠ l.getLast?) : Lot1 n (KM.sortN l) := ⟨KM.sortN_nd (h.nd e), fun z => h.ne (by
  have := (KM.sortN_perm l).length_eq
  rw [z] at this
  exact List.length_eq_zero_iff.mp this.symm), fun x hx => h.lt x (KM.sortN_mem.mp hx)⟩
theorem ix_head {l : List Nat} (h : l ≠ []) : ∃ a, l.head? = some a ∧ atI (l.map iD) 0 = some (iD a) := by
  cases l with
  | nil => exact absurd rfl h
  | cons a l => exact ⟨a, rfl, by simp [atI, ixN]⟩
theorem ix_last {l : List Nat} (h : l ≠ []) : ∃ a, l.getLast? = some a ∧ atI (l.map iD) (-1) = some (iD a) := by
  refine ⟨l.getLast h, List.getLast?_eq_some_getLast h, ?_⟩
  have hl : 0 < l.length := List.length_pos_iff.mpr h
  unfold atI ixN
  rw [List.length_map, if_neg (by omega), if_pos (by omega)]
  have : ((-1 : Int) + (l.length : Int)).toNat = l.length - 1 := by omega
  rw [this]
  simp only [Option.bind_some, List.getElem?_map]
  rw [← List.getLast?_eq_getElem?, List.getLast?_eq_some_getLast h]
  rfl
theorem ok_law_mixed {f : Addr} {fd : FuncData} (F : Fun K "_law_mixed_lots" "_law_mixed_lots" s_law_mixed_lots f fd) (T : Txt mg) (c_law_pick : Cl P w K mg base 1 "_law_pick" (PickP K)) (c_law_least : Cl P w K mg base 2 "_law_least" (Fresh K p_law_least)) :
    FnOk P w K mg base CX0 3 f fd ["_law_draws_here", "_law_size"] (DrawP K ok_mix p_mixed) := by
  refine draw_ok F sc_law_mixed_lots (fun ds h => by obtain ⟨_, _, _, rfl⟩ := h; rfl) (by decide) fun cdv A outer s H E hr => ?_
  refine ⟨_, (pss_cons (ps_set (i := 2) sc_law_mixed_lots.nd rfl (Or.inl rfl) (pe_lst pa_nil))
    (pss_cons (ps_for PassesOwn.never rfl (pi_range1 (by rfl) T.range (pa_cons (pe_op op_add pe_int (pe_cl c_law_pick hr (by decide) (by rfl) (pa_cons (pv 0) (pa_cons pe_int pa_nil)))) pa_nil)) (pg_name (i := 3) sc_law_mixed_lots.nd rfl (Or.inl rfl))
    (pss_cons (ps_setLc (i := 4) (own := [("_law_thing", 5)]) (g := gName 5) rfl sc_law_mixed_lots.nd rfl rfl (sw_true rfl rfl rfl (by decide +kernel)) (pi_range1 (by rfl) T.range (pa_cons (pv 1) pa_nil)) (blkOk_by (N := N_law_mixed_lots) (sc := defScope s_law_mixed_lots) (by decide +kernel)) (fun _ _ _ _ _ => pg_name (i := 5) sc_law_mixed_lots.nd rfl (Or.inl rfl)) (fun _ _ _ _ _ => (pts_one (pt_cmpR op_eq (pe_cl c_law_pick hr (by decide) (by rfl) (pa_cons (pv 0) (pa_cons pe_int pa_nil))) pe_int (nomark _)))) (fun _ _ _ _ _ => (pv 5)))
    (pss_cons (ps_if (pt_cmpR op_eq (pe_callB (r := rLen K) call_lenY (by rfl) T.len PySem.boot_len (pa_cons (pv 4) pa_nil)) pe_int (nomark _)) (pss_one (ps_set (i := 4) sc_law_mixed_lots.nd rfl (Or.inl rfl) (pe_lst (pa_cons (pe_cl c_law_pick hr (by decide) (by rfl) (pa_cons (pv 0) (pa_cons (pv 1) pa_nil))) (pa_cons (pe_op op_sub (pv 1) pe_int) pa_nil))))) pss_nil)
    (pss_cons (ps_if (pt_cmpR op_eq (pe_ix (r := rIxL K) ix_list (pv 4) pe_int (fun _ _ => rfl)) (pe_ix (r := rIxL K) ix_list (pv 4) (pe_un un_neg pe_int) (fun _ _ => rfl)) (nomark _)) (pss_one (ps_set (i := 4) sc_law_mixed_lots.nd rfl (Or.inl rfl) (pe_lst (pa_cons (pe_ix (r := rIxL K) ix_list (pv 4) pe_int (fun _ _ => rfl)) pa_nil)))) pss_nil)
    (pss_one (ps_expr (pe_bm PySem.F.plainAttrs_list PySem.F.slot_list_append PySem.F.type_list_append mt_append (pv 2) (pa_cons (pe_callTy (r := rTupOf K) call_tupY (by rfl) T.tuple (by decide +kernel) (pa_cons (pe_callB (r := rSortedI K) cr_sortedI (by rfl) T.sorted (by decide +kernel) (pa_cons (pv 4) pa_nil)) pa_nil)) pa_nil))))))))
    (pss_one (ps_ret (pe_cl c_law_least hr (by decide) (by rfl) (pa_cons (pv 2) pa_nil)))))), ?_⟩
  rintro ds p ⟨n, hn, hn2, rfl⟩ De o _ ns
  refine sd_seq (sd_asgO (ef_lst ea_nil) rfl fun q => sd_go ?_)
  have hd : DS (fun ns => [dr p ns, .val (iD n), .own q [], .no, .no, .no]) 0 p := ⟨fun _ => rfl, fun _ _ => rfl⟩
  refine sd_seq (sd_forN (S := fun ns => [dr p ns, .val (iD n), .own q [], .no, .no, .no]) (P := fun z => 3 ≤ z ∧ z ≤ 5) hd
    (en_op (P1 := fun d => d = iD 3) (P2 := fun _ d => ∃ x, x < 3 ∧ d = iD x) hd (en_ec (d := iD 3) (fun _ => ec_int) hd rfl) (fun _ _ => en_pick (b := 3) hd (fun _ => ec_int) (by decide)) (fun x y hx hy => by
      obtain ⟨a, ha, rfl⟩ := hy
      subst hx
      exact ⟨_, r2_int (g := fun i j => i + j), rfl, _, rfl, ⟨by omega, by omega⟩, by omega, by omega⟩))
    (fun j E => ∃ (ns : List Int) (fs : List (List Nat)), E = [dr p ns, .val (iD n), .own q (fs.map tD), .no, .no, .no] ∧ fs.length = j ∧ ∀ l ∈ fs, Lot1 n l) (fun ns => ⟨ns, [], rfl, rfl, by simp⟩) ?_ ?_ ns)
  · rintro z j E hz hj ⟨ns, fs, rfl, hfl, hfs⟩
    have hd1 : DS (fun ns => [dr p ns, .val (iD n), .own q (fs.map tD), .val (.int j), .no, .no]) 0 p := ⟨fun _ => rfl, fun _ _ => rfl⟩
    refine sd_seq (sd_asgN hd1 (en_lcD (i := 0) (n := (n : Int)) hd1 (by decide) (fun _ => by show 5 < 6; decide) (fun _ => ea_cons (ep_var (d := iD n) rfl) ea_nil) (by omega) (dt_pick (b := 2) (by decide) fun x H Q h => req_any h)) (fun d ns hdp => sd_go ?_) ns)
    obtain ⟨xs, hxs, hxl, rfl⟩ := hdp
    have hxa : KM.Asc xs := hxs
    have hxl' : ∀ x ∈ xs, x < n := fun x hx => by have := hxl x hx; omega
    -- what follows, from a lot as drawn
    have fin : ∀ (ns : List Int) (l : List Nat), Lot0 n l → SD K [p] H (fun _ => True) (tSeq
        (tIfS (tTest (tOp rEq (tOp (rIxL K) (tVar 4) (tC (.int 0))) (tOp (rIxL K) (tVar 4) (tUn (rU fun i => .int (-i)) (tC (.int 1)))))) (tAsg (tLst (tCons (tOp (rIxL K) (tVar 4) (tC (.int 0))) tNil)) (gName 4)) tNext)
        (tDrop (tBM K "list" rAppend (tVar 2) (tCons (tCB (rTupOf K) (tCons (tCB (rSortedI K) (tCons (tVar 4) tNil)) tNil)) tNil))))
        (LW K [p] H (fun _ => True) { nx := fun σ H => (tRet (tCall (Fresh K p_law_least) [] E0 (tCons (tVar 2) tNil))) De σ H, rt := De.rt, bk := De.bk, ct := De.ct } (fun E => ∃ (ns : List Int) (fs : List (List Nat)), E = [dr p ns, .val (iD n), .own q (fs.map tD), .no, .no, .no] ∧ fs.length = j + 1 ∧ ∀ l ∈ fs, Lot1 n l))
        [dr p ns, .val (iD n), .own q (fs.map tD), .val (.int j), .val (.lst (l.map iD)), .no] := fun ns l hl => by
      obtain ⟨a, ha1, ha2⟩ := ix_head hl.ne
      obtain ⟨b, hb1, hb2⟩ := ix_last hl.ne
      have app : ∀ (m : List Nat), Lot1 n (KM.sortN m) → SD K [p] H (fun _ => True) (tDrop (tBM K "list" rAppend (tVar 2) (tCons (tCB (rTupOf K) (tCons (tCB (rSortedI K) (tCons (tVar 4) tNil)) tNil)) tNil)))
          (LW K [p] H (fun _ => True) { nx := fun σ H => (tRet (tCall (Fresh K p_law_least) [] E0 (tCons (tVar 2) tNil))) De σ H, rt := De.rt, bk := De.bk, ct := De.ct } (fun E => ∃ (ns : List Int) (fs : List (List Nat)), E = [dr p ns, .val (iD n), .own q (fs.map tD), .no, .no, .no] ∧ fs.length = j + 1 ∧ ∀ l ∈ fs, Lot1 n l))
          [dr p ns, .val (iD n), .own q (fs.map tD), .val (.int j), .val (.lst (m.map iD)), .no] := fun m hm => by
        refine sd_app (p := q) (i := 2) (l := fs.map tD) (d := tD (KM.sortN m)) rfl (ep_is (ep_cb (ea_cons (EF.p (ef_cb (ea_cons (ep_var (i := 4) (d := .lst (m.map iD)) rfl) ea_nil) rf_sortedN)) ea_nil) rc_tupleL) (by rw [tD_eq])) (tD_im _) (by rw [List.length_map]; omega) ?_
        refine sd_lw (E' := [dr p ns, .val (iD n), .own q ((fs ++ [KM.sortN m]).map tD), .no, .no, .no]) ⟨ns, fs ++ [KM.sortN m], rfl, by simp [hfl], fun l hl => ?_⟩ ?_
        · rcases List.mem_append.mp hl with hl | hl
          · exact hfs l hl
          · have : l = KM.sortN m := by simpa using hl
            rw [this]; exact hm
        · rw [List.map_append]
          exact .eq (.eq (.eq (.no (.no (.eq .nil)))))
      refine sd_seq (sd_if (et_test (ep_op (ep_op (ep_var (d := .lst (l.map iD)) rfl) ep_int (r2_ixL ha2)) (ep_op (ep_var (d := .lst (l.map iD)) rfl) (ep_un (x := .int 1) ep_int r1_neg) (r2_ixL hb2)) r2_eqN)) (fun h => ?_) (fun h => ?_))
      · refine sd_asgL (ef_lst (ea_cons (ep_op (ep_var (d := .lst (l.map iD)) rfl) ep_int (r2_ixL ha2)) ea_nil)) rfl (sd_go (app [a] ?_))
        have ham : a ∈ l := List.mem_of_mem_head? ha1
        have e1 : KM.sortN [a] = [a] := sortN_asc (List.pairwise_singleton _ _)
        rw [e1]
        exact ⟨List.pairwise_singleton _ _, by simp, fun x hx => by simp at hx; rw [hx]; exact hl.lt a ham⟩
      · refine sd_go (app l (nd_at hl ?_))
        rw [ha1, hb1]
        intro z
        have : a = b := Option.some.inj z
        rw [this] at h
        simp at h
    refine sd_seq (sd_if (et_test (ep_op (ep_cb (ea_cons (ep_var (i := 4) (d := .lst (xs.map iD)) rfl) ea_nil) rc_lenLn) ep_n0 r2_eqN)) (fun h => ?_) (fun h => ?_))
    · have hd2 : DS (fun ns => [dr p ns, .val (iD n), .own q (fs.map tD), .val (.int j), .val (.lst (xs.map iD)), .no]) 0 p := ⟨fun _ => rfl, fun _ _ => rfl⟩
      refine sd_asgN hd2 (en_lst (PA := fun l => ∃ x, x < n ∧ l = [iD x, iD (n - 1)]) (P := fun d => ∃ x, x < n ∧ d = .lst ([x, n - 1].map iD)) hd2 (ena_cons (P1 := fun d => ∃ x, x < n ∧ d = iD x) (P2 := fun _ l => l = [iD (n - 1)]) hd2 (en_pick (b := n) hd2 (fun _ => ec_var (d := iD n) rfl) hn)
        (fun _ _ => ena_cons (P1 := fun d => d = iD (n - 1)) (P2 := fun _ l => l = []) hd2 (en_ec (d := iD (n - 1)) (fun _ => ec_im (ep_is (ep_op (ep_var (d := iD n) rfl) ep_n1 r2_int) (by show D.int ((n : Int) - 1) = D.int ((n - 1 : Nat) : Int); congr 1; omega)) rfl) hd2 rfl) (fun _ _ => ena_nil hd2 rfl) (fun d l h1 h2 => by rw [h1, h2]))
        (fun d l h1 h2 => by obtain ⟨x, hx, rfl⟩ := h1; exact ⟨x, hx, by rw [h2]⟩)) (fun l hl => by obtain ⟨x, _, rfl⟩ := hl; simp) (fun l hl => by obtain ⟨x, hx, rfl⟩ := hl; exact ⟨x, hx, rfl⟩)) (fun d ns hdp => sd_go ?_) ns
      obtain ⟨x, hx, rfl⟩ := hdp
      refine fin ns [x, n - 1] ⟨by simp, fun y hy => ?_, by simp, fun hne => ?_⟩
      · simp at hy
        omega
      · simp at hne ⊢
        omega
    · have hne : xs ≠ [] := fun z => by rw [z] at h; cases h
      refine sd_go (fin ns xs ⟨hne, hxl', by have := asc_len hxa hxl'; omega, fun _ => hxa.imp fun h => Nat.ne_of_lt h⟩)
  · rintro z E hz h0 ⟨ns, fs, rfl, hfl, hfs⟩
    have hd1 : DS (fun ns => [dr p ns, .val (iD n), .own q (fs.map tD), .no, .no, .no]) 0 p := ⟨fun _ => rfl, fun _ _ => rfl⟩
    have hl5 : fs.length ≤ 5 := by omega
    refine sd_go (sd_retD (S := fun ns => [dr p ns, .val (iD n), .own q (fs.map tD), .no, .no, .no]) hd1 (ec_new (ef_call (ea_cons (ep_own (i := 2) (l := fs.map tD) rfl) ea_nil) ⟨fs, ⟨by omega, fun l hl => (hfs l hl).sm (by omega)⟩, fun l hl => (hfs l hl).ne, rfl, rfl⟩) (imAll_tD _)) o ?_)
    intro n' e
    have := iD_inj (List.cons.inj e).1
    subst this
    exact ⟨fs, fun z => by rw [z] at hfl; simp at hfl; omega, hfs, rfl⟩
end
end Y
set_option Elab.async false
set_option linter.all false
set_option autoImplicit false
set_option maxRecDepth 100000
set_option maxHeartbeats 4000000
namespace Y
open PySem L2
section
variable {P : Program} {w : World} {K : PySem.W.Frag} {mg : Str → Option Value} {base : Heap}
end
end Y
set_option Elab.async false
set_option linter.all false
set_option autoImplicit false
set_option maxRecDepth 100000
set_option maxHeartbeats 4000000
namespace Y
open PySem L2
section
variable {K : PySem.W.Frag} {B : List Addr} {H0 : Hp} {Z : Hp → Prop} {E : List Slot} {S : List Int → List Slot} {i : Nat} {p : Addr} {te : TE}
/-- [n, lots] -/
def famL (n : Nat) (ls : List (List Nat)) : D := .lst [iD n, lsD ls]
def Fam (d : D) : Prop := ∃ (n : Nat) (ls : List (List Nat)), KM.GF n ls ∧ n ≤ 6 ∧ d = famL n ls
theorem gf_lot1 {n : Nat} {ls : List (List Nat)} (g : KM.GF n ls) : ∀ l ∈ ls, Lot1 n l := fun l hl => ⟨g.g.asc l hl, g.lne l hl, g.lt l hl⟩
theorem gf_small {n : Nat} {ls : List (List Nat)} (g : KM.GF n ls) (hn : n ≤ 7) : ls.length ≤ 128 := Nat.le_trans (KM.gf_len g) (by
  calc 2 ^ n ≤ 2 ^ 7 := Nat.pow_le_pow_right (by decide) hn
    _ = 128 := by decide)
theorem gf_LL {n : Nat} {ls : List (List Nat)} (g : KM.GF n ls) (hn : n ≤ 7) : LL ls := ⟨by have := gf_small g hn; omega, fun l hl => (gf_lot1 g l hl).sm (by omega)⟩
theorem et_eqN {a : Nat} {b : Int} {k : Nat} {j : Nat} (h : E[j]? = some (.val (iD a))) (e : b = (k : Int)) : ET K B H0 Z (tTest (tOp rEq (tVar j) (tC (.int b)))) E (a == k) := by
  subst e
  exact et_test (ep_op (ep_var h) (ep_int (i := (k : Int))) r2_eqN)
theorem et_in2 {a k1 k2 : Nat} {b1 b2 : Int} {j : Nat} (h : E[j]? = some (.val (iD a))) (e1 : b1 = (k1 : Int)) (e2 : b2 = (k2 : Int)) : ET K B H0 Z (tTest (tOp (rIn K false) (tVar j) (tTup (tCons (tC (.int b1)) (tCons (tC (.int b2)) tNil))))) E (decide ((a : Int) ∈ [b1, b2])) :=
  et_test (ep_op (ep_var h) (ep_tup (ea_cons ep_int (ea_cons ep_int ea_nil))) (r2_inI (i := (a : Int)) (ns := [b1, b2]) (.inl rfl)))
/-- [n, lots] of a number and a new list of lots -/
theorem ec_fam {ta tb : TE} {n : Nat} {ls : List (List Nat)} (ha : EC K B H0 Z ta E (iD n)) (hb : EC K B H0 Z tb E (lsD ls)) : EC K B H0 Z (tLst (tCons ta (tCons tb tNil))) E (famL n ls) := ec_lst (eac_cons ha (eac_cons hb eac_nil))
theorem en_fam {ta tb : TE} {PA : D → Prop} {PB : D → D → Prop} {P : D → Prop} (hd : DS S i p) (ha : EN K B H0 Z ta S p PA) (hb : ∀ d, PA d → EN K B H0 Z tb S p (PB d)) (hP : ∀ d d', PA d → PB d d' → P (.lst [d, d'])) : EN K B H0 Z (tLst (tCons ta (tCons tb tNil))) S p P :=
  en_lst (PA := fun l => ∃ d d', PA d ∧ PB d d' ∧ l = [d, d']) hd (ena_cons (P2 := fun d l => ∃ d', PB d d' ∧ l = [d']) hd ha (fun d pd => ena_cons (P2 := fun _ l => l = []) hd (hb d pd) (fun _ _ => ena_nil hd rfl) (fun d' l h1 h2 => ⟨d', h1, by rw [h2]⟩)) (fun d l h1 h2 => by obtain ⟨d', h3, rfl⟩ := h2; exact ⟨d, d', h1, h3, rfl⟩))
    (fun l h => by obtain ⟨_, _, _, _, rfl⟩ := h; simp) (fun l h => by obtain ⟨d, d', h1, h2, rfl⟩ := h; exact hP d d' h1 h2)
theorem nil_eq {α : Type} {l : List α} (h : l = []) : l = [] := h
end
section
variable {P : Program} {w : World} {K : PySem.W.Frag} {mg : Str → Option Value} {base : Heap}
def ok_0 (ds : List D) : Prop := ds = []
def p_fam (_ : List D) (d : D) : Prop := Fam d
/-! small -/
abbrev s_law_small : Stmt := topS 56
abbrev N_law_small : List Str := ["_law_draws_here", "_law_word", "_law_size"]
theorem sc_law_small : FnScope N_law_small ["_law_draws_here"] (defScope s_law_small) := ⟨rfl, rfl, rfl, by decide +kernel, rfl, by decide +kernel, by decide +kernel⟩
theorem ok_law_small {f : Addr} {fd : FuncData} (F : Fun K "_law_small" "_law_small" s_law_small f fd) (T : Txt mg) (c_law_pick : Cl P w K mg base 1 "_law_pick" (PickP K)) (c_law_sized : Cl P w K mg base 2 "_law_sized" (Fresh K p_law_sized)) (c_law_mixed_lots : Cl P w K mg base 3 "_law_mixed_lots" (DrawP K ok_mix p_mixed))
    (c_law_fan : Cl P w K mg base 1 "_law_fan" (Fresh K p_law_fan)) (c_law_chosen : Cl P w K mg base 2 "_law_chosen" (DrawP K ok_ch p_chosen)) : FnOk P w K mg base CX0 4 f fd ["_law_draws_here"] (DrawP K ok_0 p_fam) := by
  refine draw_ok F sc_law_small (fun ds h => by cases h; rfl) (by decide) fun cdv A outer s H E hr => ?_
  have hu := hr.units
  refine ⟨_, (pss_cons (ps_set (i := 1) sc_law_small.nd rfl (Or.inl rfl) (pe_cl c_law_pick hr (by decide) (by rfl) (pa_cons (pv 0) (pa_cons pe_int pa_nil))))
    (pss_cons (ps_if (pt_cmpR (r := rIn K false) op_in_seq (pv 1) (pe_tup (pa_cons pe_int (pa_cons pe_int pa_nil))) rfl) (pss_one (ps_ret (pe_lst (pa_cons pe_int (pa_cons (pe_cl c_law_sized hr (by decide) (by rfl) (pa_cons pe_int (pa_cons pe_int pa_nil))) pa_nil))))) pss_nil)
    (pss_cons (ps_if (pt_cmpR op_eq (pv 1) pe_int (nomark _)) (pss_cons (ps_set (i := 2) sc_law_small.nd rfl (Or.inl rfl) (pe_op op_add pe_int (pe_cl c_law_pick hr (by decide) (by rfl) (pa_cons (pv 0) (pa_cons pe_int pa_nil)))))
    (pss_one (ps_ret (pe_lst (pa_cons (pv 2) (pa_cons (pe_cl c_law_mixed_lots hr (by decide) (by rfl) (pa_cons (pv 0) (pa_cons (pv 2) pa_nil))) pa_nil)))))) pss_nil)
    (pss_cons (ps_if (pt_cmpR op_eq (pv 1) pe_int (nomark _)) (pss_one (ps_ret (pe_lst (pa_cons pe_int (pa_cons (pe_callB (r := rSortY K) (cr_sortY hu) (by rfl) T.sorted (by decide +kernel) (pa_cons (pe_lst (pa_cons (pe_tup (pa_cons pe_int (pa_cons pe_int pa_nil))) (pa_cons (pe_tup (pa_cons pe_int (pa_cons pe_int pa_nil))) (pa_cons (pe_tup (pa_cons pe_int (pa_cons pe_int pa_nil))) (pa_cons (pe_tup (pa_cons pe_int (pa_cons pe_int pa_nil))) pa_nil))))) pa_nil)) pa_nil))))) pss_nil)
    (pss_cons (ps_if (pt_cmpR op_eq (pv 1) pe_int (nomark _)) (pss_one (ps_ret (pe_lst (pa_cons pe_int (pa_cons (pe_cl c_law_fan hr (by decide) (by rfl) (pa_cons pe_int pa_nil)) pa_nil))))) pss_nil)
    (pss_cons (ps_if (pt_cmpR op_eq (pv 1) pe_int (nomark _)) (pss_one (ps_ret (pe_lst (pa_cons pe_int (pa_cons (pe_cl c_law_sized hr (by decide) (by rfl) (pa_cons pe_int (pa_cons (pe_op op_add pe_int (pe_cl c_law_pick hr (by decide) (by rfl) (pa_cons (pv 0) (pa_cons pe_int pa_nil)))) pa_nil))) pa_nil))))) pss_nil)
    (pss_cons (ps_if (pt_cmpR op_eq (pv 1) pe_int (nomark _)) (pss_one (ps_ret (pe_lst (pa_cons pe_int (pa_cons (pe_cl c_law_chosen hr (by decide) (by rfl) (pa_cons (pv 0) (pa_cons (pe_cl c_law_sized hr (by decide) (by rfl) (pa_cons pe_int (pa_cons pe_int pa_nil))) (pa_cons pe_int pa_nil)))) pa_nil))))) pss_nil)
    (pss_one (ps_ret (pe_lst (pa_cons (pe_op op_add pe_int (pe_cl c_law_pick hr (by decide) (by rfl) (pa_cons (pv 0) (pa_cons pe_int pa_nil)))) (pa_cons (pe_lst (pa_cons (pe_tup (pa_cons pe_int pa_nil)) pa_nil)) pa_nil)))))))))))), ?_⟩
  rintro ds p rfl De o _ ns
  have hd0 : DS (fun ns => [dr p ns, .no, .no]) 0 p := ⟨fun _ => rfl, fun _ _ => rfl⟩
  refine sd_seq (sd_asgN (S := fun ns => [dr p ns, .no, .no]) hd0 (en_pick (b := 8) hd0 (fun _ => ec_int) (by decide)) (fun d ns hdp => sd_go ?_) ns)
  obtain ⟨x, hx, rfl⟩ := hdp
  have hd : DS (fun ns => [dr p ns, .val (iD x), .no]) 0 p := ⟨fun _ => rfl, fun _ _ => rfl⟩
  have ho : ∀ ns, ows ((fun ns => [dr p ns, .val (iD x), .no]) ns) = [p] := fun _ => rfl
  have sized : ∀ (n k : Nat) {Z : Hp → Prop} {E : List Slot}, n ≤ 12 → 1 ≤ k → EC K [p] H Z (tCall (Fresh K p_law_sized) [] E0 (tCons (tC (.int n)) (tCons (tC (.int k)) tNil))) E (lsD (KM.sized n k)) := fun n k {Z E} hn hk =>
    ec_new (ef_call (ea_cons ep_int (ea_cons ep_int ea_nil)) ⟨n, k, hn, hk, rfl, rfl⟩) (imAll_tD _)
  have tup : ∀ (a b : Nat) {Z : Hp → Prop} {E : List Slot}, EP K [p] H Z (tTup (tCons (tC (.int a)) (tCons (tC (.int b)) tNil))) E (tD [a, b]) := fun a b {Z E} => ep_tup (ea_cons ep_int (ea_cons ep_int ea_nil)) (by simp [zs])
  refine sd_seq (sd_if (et_in2 (k1 := 0) (k2 := 5) rfl rfl rfl) (fun _ => ?_) (fun _ => sd_go ?_))
  · exact sd_retD (S := fun ns => [dr p ns, .val (iD x), .no]) hd (ec_fam (n := 3) ec_int (sized 3 2 (by decide) (by decide))) o ⟨3, _, KM.sized_gf (by decide) (by decide), by decide, rfl⟩
  refine sd_seq (sd_if (et_eqN (k := 1) rfl rfl) (fun _ => ?_) (fun _ => sd_go ?_))
  · refine sd_seq (sd_asgN (S := fun ns => [dr p ns, .val (iD x), .no]) hd (en_op (P1 := fun d => d = iD 3) (P2 := fun _ d => ∃ x, x < 2 ∧ d = iD x) (P := fun d => ∃ n, 3 ≤ n ∧ n ≤ 4 ∧ d = iD n) hd (en_ec (d := iD 3) (fun _ => ec_int) hd rfl) (fun _ _ => en_pick (b := 2) hd (fun _ => ec_int) (by decide)) (fun a b h1 h2 => by
      obtain ⟨c, hc, rfl⟩ := h2
      subst h1
      exact ⟨_, r2_int (g := fun i j => i + j), rfl, 3 + c, by omega, by omega, by show D.int ((3 : Int) + (c : Int)) = D.int ((3 + c : Nat) : Int); congr 1⟩)) (fun d ns hdp => sd_go ?_) ns)
    obtain ⟨n, hn1, hn2, rfl⟩ := hdp
    have hd2 : DS (fun ns => [dr p ns, .val (iD x), .val (iD n)]) 0 p := ⟨fun _ => rfl, fun _ _ => rfl⟩
    refine sd_retDN (S := fun ns => [dr p ns, .val (iD x), .val (iD n)]) (P := Fam) hd2 (en_fam (PA := fun d => d = iD n) (PB := fun _ d => ∃ fs, fs ≠ [] ∧ (∀ l ∈ fs, Lot1 n l) ∧ d = lsD (KM.leastL fs)) hd2 (en_ec (d := iD n) (fun _ => ec_var rfl) hd2 rfl) (fun _ _ => en_draw hd2 (fun _ => eac_cons (ec_var (d := iD n) rfl) eac_nil) ⟨n, by omega, by omega, rfl⟩ (fun d h => h n rfl) (.inr fun _ => rfl))
      (fun d d' h1 h2 => ?_)) o (fun d h => h) ns
    obtain ⟨fs, f1, f2, rfl⟩ := h2
    subst h1
    exact ⟨n, _, KM.least_gf (by omega) f1 (fun l hl => (f2 l hl).asc) (fun l hl => (f2 l hl).ne) (fun l hl => (f2 l hl).lt), by omega, rfl⟩
  refine sd_seq (sd_if (et_eqN (k := 2) rfl rfl) (fun _ => ?_) (fun _ => sd_go ?_))
  · refine sd_retD (S := fun ns => [dr p ns, .val (iD x), .no]) hd (ec_fam (n := 4) ec_int (ec_new (ef_cb (ea_cons (EF.p (ef_lst (ea_cons (tup 0 1) (ea_cons (tup 0 2) (ea_cons (tup 0 3) (ea_cons (tup 1 2) ea_nil)))))) ea_nil) (rf_sortY (ts := [[0, 1], [0, 2], [0, 3], [1, 2]]) (.inr (by decide)))) (imAll_tD _))) o ⟨4, _, KM.four, by decide, rfl⟩
  refine sd_seq (sd_if (et_eqN (k := 3) rfl rfl) (fun _ => ?_) (fun _ => sd_go ?_))
  · exact sd_retD (S := fun ns => [dr p ns, .val (iD x), .no]) hd (ec_fam (n := 4) ec_int (ec_new (ef_call (ea_cons (ep_int (i := ((4 : Nat) : Int))) ea_nil) ⟨4, by decide, by decide, rfl, rfl⟩) (imAll_tD _))) o ⟨4, _, KM.fan4, by decide, rfl⟩
  refine sd_seq (sd_if (et_eqN (k := 4) rfl rfl) (fun _ => ?_) (fun _ => sd_go ?_))
  · refine sd_retDN (S := fun ns => [dr p ns, .val (iD x), .no]) (P := Fam) hd (en_fam (PA := fun d => d = iD 4) (PB := fun _ d => ∃ k, 2 ≤ k ∧ k ≤ 3 ∧ d = lsD (KM.sized 4 k)) hd (en_ec (d := iD 4) (fun _ => ec_int) hd rfl)
      (fun _ _ => en_callF (PA := fun l => ∃ k, 2 ≤ k ∧ k ≤ 3 ∧ l = [iD 4, iD k]) hd (ena_cons (P1 := fun d => d = iD 4) (P2 := fun _ l => ∃ k, 2 ≤ k ∧ k ≤ 3 ∧ l = [iD k]) hd (en_ec (d := iD 4) (fun _ => ec_int) hd rfl)
        (fun _ _ => ena_cons (P1 := fun d => ∃ k, 2 ≤ k ∧ k ≤ 3 ∧ d = iD k) (P2 := fun _ l => l = []) hd (en_op (P1 := fun d => d = iD 2) (P2 := fun _ d => ∃ x, x < 2 ∧ d = iD x) hd (en_ec (d := iD 2) (fun _ => ec_int) hd rfl) (fun _ _ => en_pick (b := 2) hd (fun _ => ec_int) (by decide)) (fun a b h1 h2 => by
          obtain ⟨c, hc, rfl⟩ := h2
          subst h1
          exact ⟨_, r2_int (g := fun i j => i + j), rfl, 2 + c, by omega, by omega, by show D.int ((2 : Int) + (c : Int)) = D.int ((2 + c : Nat) : Int); congr 1⟩)) (fun _ _ => ena_nil hd rfl) (fun d l h1 h2 => by obtain ⟨k, a, b, rfl⟩ := h1; exact ⟨k, a, b, by rw [h2]⟩)) (fun d l h1 h2 => by obtain ⟨k, a, b, rfl⟩ := h2; exact ⟨k, a, b, by rw [h1]⟩))
        (fun l h => by obtain ⟨k, a, b, rfl⟩ := h; exact ⟨_, ⟨4, k, by decide, by omega, rfl, rfl⟩, imAll_tD _, k, a, b, rfl⟩))
      (fun d d' h1 h2 => ?_)) o (fun d h => h) ns
    obtain ⟨k, a, b, rfl⟩ := h2
    subst h1
    exact ⟨4, _, KM.sized_gf (by omega) (by omega), by decide, rfl⟩
  refine sd_seq (sd_if (et_eqN (k := 6) rfl rfl) (fun _ => ?_) (fun _ => sd_go ?_))
  · refine sd_retDN (S := fun ns => [dr p ns, .val (iD x), .no]) (P := Fam) hd (en_fam (PA := fun d => d = iD 4) (PB := fun _ d => ∃ ls' : List (List Nat), ls'.Sublist (KM.sized 4 2) ∧ 2 ≤ ls'.length ∧ d = lsD ls') hd (en_ec (d := iD 4) (fun _ => ec_int) hd rfl)
      (fun _ _ => en_draw hd (fun _ => eac_cons (sized 4 2 (by decide) (by decide)) (eac_cons (ec_int (k := ((2 : Nat) : Int))) eac_nil)) ⟨KM.sized 4 2, 2, by rw [KM.sized42]; decide, by rw [KM.sized42]; decide, rfl⟩ (fun d h => h _ _ rfl) (.inr fun _ => rfl))
      (fun d d' h1 h2 => ?_)) o (fun d h => h) ns
    obtain ⟨ls', f1, f2, rfl⟩ := h2
    subst h1
    exact ⟨4, ls', (KM.sized_gf (by decide) (by decide)).sub f1 (fun z => by rw [z] at f2; simp at f2), by decide, rfl⟩
  · refine sd_retDN (S := fun ns => [dr p ns, .val (iD x), .no]) (P := Fam) hd (en_fam (PA := fun d => ∃ n, 1 ≤ n ∧ n ≤ 2 ∧ d = iD n) (PB := fun _ d => d = lsD [[0]]) hd (en_op (P1 := fun d => d = iD 1) (P2 := fun _ d => ∃ x, x < 2 ∧ d = iD x) hd (en_ec (d := iD 1) (fun _ => ec_int) hd rfl) (fun _ _ => en_pick (b := 2) hd (fun _ => ec_int) (by decide)) (fun a b h1 h2 => by
          obtain ⟨c, hc, rfl⟩ := h2
          subst h1
          exact ⟨_, r2_int (g := fun i j => i + j), rfl, 1 + c, by omega, by omega, by show D.int ((1 : Int) + (c : Int)) = D.int ((1 + c : Nat) : Int); congr 1⟩))
      (fun _ _ => en_ec (d := lsD [[0]]) (fun _ => ec_new (ef_lst (ea_cons (ep_tup (ea_cons ep_int ea_nil) (by simp [zs])) ea_nil)) rfl) hd rfl)
      (fun d d' h1 h2 => ?_)) o (fun d h => h) ns
    obtain ⟨n, a, b, rfl⟩ := h1
    subst h2
    exact ⟨n, _, KM.one1 a, by omega, rfl⟩
end
end Y
set_option Elab.async false
set_option linter.all false
set_option autoImplicit false
set_option maxRecDepth 100000
set_option maxHeartbeats 4000000
namespace Y
open PySem L2
section
variable {P : Program} {w : World} {K : PySem.W.Frag} {mg : Str → Option Value} {base : Heap}
end
end Y
set_option Elab.async false
set_option linter.all false
set_option autoImplicit false
set_option maxRecDepth 100000
set_option maxHeartbeats 4000000
namespace Y
open PySem L2
/-- a new list, one of several -/
def FreshN (K : PySem.W.Frag) (ok : List D → Prop) (pre : List D → List D → Prop) : Sp := fun vs H Q _ => ∃ ds, IsAll K H vs ds ∧ ok ds ∧ ∀ l p ws H', pre ds l → H p = none → Ex H H' → H' p = some (.lst ws) → IsAll K H' ws l → Q (.ref p) H'
section
variable {P : Program} {w : World} {K : PySem.W.Frag} {mg : Str → Option Value} {base : Heap}
theorem freshn_ok {x qual : Str} {st : Stmt} {f : Addr} {fd : FuncData} {N ps : List Str} {k : Nat} {ok : List D → Prop} {pre : List D → List D → Prop} (F : Fun K x qual st f fd) (S : FnScope N ps (defScope st)) (len : ∀ ds, ok ds → ds.length = ps.length) (hN : ps.length ≤ N.length)
    (hb : ∀ (cdv : Value) (A : Around) (outer : List PySem.Env) (s : Shared) (H : Hp) (E : XK), Room k (A.deeper (PyProof.Rows.envOfC qual (defScope st) s.heap.objs.size f cdv)) →
      ∃ t, PSs (cxOf CX0 P w K mg base N qual (defScope st) f cdv A outer s H E).nox (defBody st) t ∧ ∀ ds, ok ds → ∀ D : Ends, (∀ l, pre ds l → OkF K H D l) → SD K [] H (fun _ => True) t D (entry N ds)) :
    FnOk P w K mg base CX0 (k + 1) f fd ps (FreshN K ok pre) := by
  refine F.ok S (fun vs H Q E h => ?_) (fun cdv A outer s H vs Q E hr h => ?_)
  · obtain ⟨ds, h1, h2, _⟩ := h
    rw [h1.length]
    exact len ds h2
  · obtain ⟨t, ht, hs⟩ := hb cdv A outer s H E hr
    refine ⟨t, ht, ?_⟩
    obtain ⟨ds, h1, h2, h3⟩ := h
    refine hs ds h2 _ (fun l hl => ⟨fun p ws H' np e hp i => h3 l p ws H' hl (np (by simp)) (fun a o q => e a o (by simp) q) hp i⟩) _ _ (env_entry h1 ?_)
    have := len ds h2
    omega
variable {B : List Addr} {H0 : Hp} {Z : Hp → Prop} {E : List Slot} {ta tb tc te : TE} {ea : TA} {x y z d : D} {l m : List D} {De : Ends}
theorem sd_asgON {i : Nat} {ex : XK} {ok : List D → Prop} {pre : List D → List D → Prop} (h : EA K B H0 Z ea E l) (hok : ok l) (him : ∀ m, pre l m → imAll m = true) (k : ∀ p m, pre l m → SD K B H0 Z tNext De (E.set i (.own p m))) : SD K B H0 Z (tAsg (tCall (FreshN K ok pre) [] ex ea) (gName i)) De E := fun σ H e =>
  h σ H e _ fun vs H1 e1 h1 => ⟨l, by rw [List.append_nil]; exact h1, hok, fun m p ws H2 hm np e2 hp h2 => k p m hm _ H2 ((e.ext e1).setO e2 np hp h2 (him m hm) fun hb => by
    cases q : H0 p with
    | none => rfl
    | some o =>
      have := (e.ext e1).ex p o hb q
      rw [np] at this
      cases this)⟩
theorem ef_rev (h : EP K B H0 Z te E (.lst l)) : EF K B H0 Z (tRevL K te) E l.reverse := fun σ H e Q q =>
  h σ H e _ fun v H1 e1 h1 => by
    cases h1 with
    | lst hq ht =>
      rename_i a xs
      exact ⟨a, xs, rfl, hq, fun p np => q p _ _ (e1.back np) (e1.trans (Ex.new np)) upd_same (ht.rev.mono (Ex.new np))⟩
theorem rc_min {a b : Int} : RCd K (fun xs H Q => ∃ i j, xs = [.int i, .int j] ∧ Q (.int (if j < i then j else i)) H) [.int a, .int b] (.int (if b < a then b else a)) := fun vs H h Q q => by
  cases h with
  | cons h1 t =>
    cases h1
    cases t with
    | cons h2 t =>
      cases h2
      cases t
      exact ⟨a, b, rfl, q _ H (Ex.refl H) (.int _)⟩
/-! draws -/
abbrev s_law_draws : Stmt := topS 42
abbrev N_law_draws : List Str := ["_law_script", "_law_draws_here", "_law_at", "_law_cell", "_law_turn", "_law_mixed"]
theorem sc_law_draws : FnScope N_law_draws ["_law_script"] (defScope s_law_draws) := ⟨rfl, rfl, rfl, by decide +kernel, rfl, by decide +kernel, by decide +kernel⟩
def ok_draws (ds : List D) : Prop := ∃ ns : List Int, ns.length ≤ 63 ∧ ds = [.lst (ns.map D.int)]
def p_draws (_ : List D) (l : List D) : Prop := ∃ ns : List Int, l = ns.map D.int
theorem ok_law_draws {f : Addr} {fd : FuncData} (F : Fun K "_law_draws" "_law_draws" s_law_draws f fd) (T : Txt mg) : FnOk P w K mg base CX0 1 f fd ["_law_script"] (FreshN K ok_draws p_draws) := by
  refine freshn_ok F sc_law_draws (fun ds h => by obtain ⟨_, _, rfl⟩ := h; rfl) (by decide) fun cdv A outer s H E hr => ?_
  refine ⟨_, (pss_cons (ps_set (i := 1) sc_law_draws.nd rfl (Or.inl rfl) (pe_lst pa_nil))
    (pss_cons (ps_for PassesOwn.never rfl (pi_range1 (by rfl) T.range (pa_cons (pe_callB (call_min2 rfl) (by rfl) T.min (by decide +kernel) (pa_cons (pe_callB (r := rLen K) call_lenY (by rfl) T.len PySem.boot_len (pa_cons (pv 0) pa_nil)) (pa_cons pe_int pa_nil))) pa_nil)) (pg_name (i := 2) sc_law_draws.nd rfl (Or.inl rfl))
    (pss_cons (ps_set (i := 3) sc_law_draws.nd rfl (Or.inl rfl) (pe_callTy call_int1 (by rfl) T.int (by decide +kernel) (pa_cons (pe_ix (r := rIxL K) ix_list (pv 0) (pv 2) (fun _ _ => rfl)) pa_nil)))
    (pss_cons (ps_if (pt_cmpR op_lt (pv 3) pe_int (nomark _)) (pss_one (ps_set (i := 3) sc_law_draws.nd rfl (Or.inl rfl) (pe_op op_sub pe_int (pv 3)))) pss_nil)
    (pss_one (ps_if (pt_cmpR op_ge (pv 3) (pe_op op_pow pe_int pe_int) (nomark _)) (pss_one (ps_for PassesOwn.never rfl (pi_range1 (by rfl) T.range (pa_cons pe_int pa_nil)) (pg_name (i := 4) sc_law_draws.nd rfl (Or.inl rfl))
    (pss_one (ps_if (pt_cmpR op_gt (pv 3) pe_int (nomark _)) (pss_cons (ps_expr (pe_bm PySem.F.plainAttrs_list PySem.F.slot_list_append PySem.F.type_list_append mt_append (pv 1) (pa_cons (pe_op op_mod (pe_callTy call_int1 (by rfl) T.int (by decide +kernel) (pa_cons (pv 3) pa_nil)) pe_int) pa_nil)))
    (pss_one (ps_set (i := 3) sc_law_draws.nd rfl (Or.inl rfl) (pe_op op_fdiv (pv 3) pe_int)))) pss_nil)))) (pss_cons (ps_set (i := 5) sc_law_draws.nd rfl (Or.inl rfl) (pe_op op_mod (pe_callTy call_int1 (by rfl) T.int (by decide +kernel) (pa_cons (pe_op op_add (pe_op op_add (pe_op op_mulW (pv 3) pe_int) (pe_op op_mulW (pv 2) pe_int)) pe_int) pa_nil)) pe_int))
    (pss_one (ps_for PassesOwn.never rfl (pi_range1 (by rfl) T.range (pa_cons pe_int pa_nil)) (pg_name (i := 4) sc_law_draws.nd rfl (Or.inl rfl))
    (pss_cons (ps_set (i := 5) sc_law_draws.nd rfl (Or.inl rfl) (pe_op op_mod (pe_callTy call_int1 (by rfl) T.int (by decide +kernel) (pa_cons (pe_op op_add (pe_op op_add (pe_op op_add (pe_op op_mulW (pv 5) (pv 5)) (pe_op op_mulW (pv 2) pe_int)) (pe_op op_mulW (pv 4) pe_int)) pe_int) pa_nil)) pe_int))
    (pss_one (ps_expr (pe_bm PySem.F.plainAttrs_list PySem.F.slot_list_append PySem.F.type_list_append mt_append (pv 1) (pa_cons (pe_op op_fdiv (pv 5) pe_int) pa_nil)))))))))))))
    (pss_one (ps_ret (pe_revL (pv 1)))))), ?_⟩
  rintro ds ⟨ns, hz, rfl⟩ De o
  refine sd_seq (sd_asgO (ef_lst ea_nil) rfl fun q => sd_go ?_)
  have hmin : (if (63 : Int) < (ns.length : Int) then (63 : Int) else (ns.length : Int)) = (ns.length : Int) := if_neg (by omega)
  refine sd_seq (sd_forRW (n := (ns.length : Int)) (fun i E => ∃ ds : List Int, E = [.val (.lst (ns.map D.int)), .own q (ds.map D.int), .no, .no, .no, .no] ∧ ds.length ≤ 40 * i)
    (ea_cons (ep_is (ep_cb (ea_cons (ep_cb (ea_cons (ep_var (i := 0) (d := .lst (ns.map D.int)) rfl) ea_nil) rc_lenLn) (ea_cons ep_int ea_nil)) rc_min) (by rw [hmin])) ea_nil) (by omega) ⟨[], rfl, by simp⟩ ?_ ?_)
  · rintro i E hi ⟨ds, rfl, hd⟩
    have hi' : i < ns.length := by omega
    have hix : atI (ns.map D.int) (i : Int) = some (.int ns[i]) := by
      unfold atI ixN
      rw [List.length_map, if_pos (by omega), if_pos (by omega)]
      simp [hi']
    refine sd_seq (sd_asg (d := .int ns[i]) (ep_cb (ea_cons (ep_op (ep_var (d := .lst (ns.map D.int)) rfl) (ep_var rfl) (r2_ixL hix)) ea_nil) rc_intI) rfl (sd_go ?_))
    -- from here on: a number at least 0
    have rest : ∀ c : Int, 0 ≤ c → SD K [] H (fun _ => True) (tIfS (tTest (tOp (rI0 fun i j => .bl (decide (j ≤ i))) (tVar 3) (tOp (rI CPow fun i j => .int (i ^ j.toNat)) (tC (.int 10)) (tC (.int 18)))))
        (tFor (iRng1 (tCons (tC (.int 40)) tNil)) (gName 4) (tIfS (tTest (tOp (rI0 fun i j => .bl (decide (j < i))) (tVar 3) (tC (.int 0)))) (tSeq (tDrop (tBM K "list" rAppend (tVar 1) (tCons (tOp (rI (fun _ j => 0 < j) fun i j => .int (i % j)) (tCB (fun xs H Q => (∃ i, xs = [.int i] ∧ Q (.int i) H) ∨ ∃ k, xs = [.bl k] ∧ Q (.int (if k then 1 else 0)) H) (tCons (tVar 3) tNil)) (tC (.int 24))) tNil))) (tAsg (tOp (rI CDiv fun i j => .int (i / j)) (tVar 3) (tC (.int 24))) (gName 3))) tNext))
        (tSeq (tAsg (tOp (rI (fun _ j => 0 < j) fun i j => .int (i % j)) (tCB (fun xs H Q => (∃ i, xs = [.int i] ∧ Q (.int i) H) ∨ ∃ k, xs = [.bl k] ∧ Q (.int (if k then 1 else 0)) H) (tCons (tOp (rI0 fun i j => .int (i + j)) (tOp (rI0 fun i j => .int (i + j)) (tOp (rI CMulW fun i j => .int (i * j)) (tVar 3) (tC (.int 48271))) (tOp (rI CMulW fun i j => .int (i * j)) (tVar 2) (tC (.int 977)))) (tC (.int 3))) tNil)) (tC (.int 2147483647))) (gName 5))
        (tFor (iRng1 (tCons (tC (.int 5)) tNil)) (gName 4) (tSeq (tAsg (tOp (rI (fun _ j => 0 < j) fun i j => .int (i % j)) (tCB (fun xs H Q => (∃ i, xs = [.int i] ∧ Q (.int i) H) ∨ ∃ k, xs = [.bl k] ∧ Q (.int (if k then 1 else 0)) H) (tCons (tOp (rI0 fun i j => .int (i + j)) (tOp (rI0 fun i j => .int (i + j)) (tOp (rI0 fun i j => .int (i + j)) (tOp (rI CMulW fun i j => .int (i * j)) (tVar 5) (tVar 5)) (tOp (rI CMulW fun i j => .int (i * j)) (tVar 2) (tC (.int 613)))) (tOp (rI CMulW fun i j => .int (i * j)) (tVar 4) (tC (.int 89)))) (tC (.int 17))) tNil)) (tC (.int 2147483629))) (gName 5))
          (tDrop (tBM K "list" rAppend (tVar 1) (tCons (tOp (rI CDiv fun i j => .int (i / j)) (tVar 5) (tC (.int 16))) tNil)))))))
        (LW K [] H (fun _ => True) { nx := fun σ H => (tRet (tRevL K (tVar 1))) De σ H, rt := De.rt, bk := De.bk, ct := De.ct } (fun E => ∃ ds : List Int, E = [.val (.lst (ns.map D.int)), .own q (ds.map D.int), .no, .no, .no, .no] ∧ ds.length ≤ 40 * (i + 1)))
        [.val (.lst (ns.map D.int)), .own q (ds.map D.int), .val (.int i), .val (.int c), .no, .no] := fun c hc => by
      have hpow : (10 : Int) ^ ((18 : Int)).toNat = 1000000000000000000 := by decide
      refine sd_if (et_test (ep_op (ep_var rfl) (ep_op ep_int ep_int (r2_intC (C := CPow) (g := fun i j => i ^ j.toNat) ⟨by decide, by decide, by decide +kernel⟩)) (r2_cmp (g := fun i j => decide (j ≤ i))))) (fun h => ?_) (fun h => ?_)
      · refine sd_forRW (n := 40) (fun j E => ∃ (ds : List Int) (c : Int), E = [.val (.lst (ns.map D.int)), .own q (ds.map D.int), .val (.int i), .val (.int c), .no, .no] ∧ ds.length ≤ 40 * i + j) (ea_cons ep_int ea_nil) (by decide) ⟨ds, c, rfl, by omega⟩ ?_ ?_
        · rintro j E hj ⟨ds, c, rfl, hd⟩
          refine sd_if (et_test (ep_op (ep_var (i := 3) rfl) ep_int (r2_cmp (g := fun i j => decide (j < i))))) (fun h => ?_) (fun h => ?_)
          · refine sd_seq (sd_app (p := q) (i := 1) (l := ds.map D.int) rfl (ep_op (ep_cb (ea_cons (ep_var rfl) ea_nil) rc_intI) ep_int (r2_intC (C := fun _ j => 0 < j) (g := fun i j => i % j) (by decide))) rfl (by rw [List.length_map]; omega) (sd_go ?_))
            refine sd_asg (d := .int (c / 24)) (ep_op (ep_var rfl) ep_int (r2_intC (C := CDiv) (g := fun i j => i / j) ⟨by decide, by decide⟩)) rfl ?_
            refine sd_lw (E' := [.val (.lst (ns.map D.int)), .own q ((ds ++ [c % 24]).map D.int), .val (.int i), .val (.int (c / 24)), .no, .no]) ⟨_, _, rfl, by simp; omega⟩ ?_
            rw [List.map_append]
            exact .eq (.eq (.eq (.eq (.no (.eq .nil)))))
          · exact sd_lw (E' := [.val (.lst (ns.map D.int)), .own q (ds.map D.int), .val (.int i), .val (.int c), .no, .no]) ⟨_, _, rfl, by omega⟩ (.eq (.eq (.eq (.eq (.no (.eq .nil))))))
        · rintro E ⟨ds, c, rfl, hd⟩
          exact sd_lw (E' := [.val (.lst (ns.map D.int)), .own q (ds.map D.int), .no, .no, .no, .no]) ⟨ds, rfl, by have : ((40 : Int)).toNat = 40 := rfl; omega⟩ (.eq (.eq (.no (.no (.eq (.eq .nil))))))
      · have hc2 : c < 1000000000000000000 := by
          rw [hpow] at h
          have := of_decide_eq_false h
          omega
        have sm : ∀ {a b : Int} {x y : Nat}, a.natAbs < 2 ^ x → b.natAbs < 2 ^ y → 0 < x → 0 < y → x + y ≤ 1000000 → CMulW a b := fun {a b x y} h1 h2 h3 h4 h5 => wide_mul h1 h2 h3 h4 h5
        have hcb : c.natAbs < 2 ^ 64 := by omega
        have hib : ((i : Nat) : Int).natAbs < 2 ^ 16 := by omega
        refine sd_seq (sd_asg (d := .int ((c * 48271 + i * 977 + 3) % 2147483647)) (ep_op (ep_cb (ea_cons (ep_op (ep_op (ep_op (ep_var rfl) ep_int (r2_intC (C := CMulW) (g := fun i j => i * j) (sm (y := 16) hcb (by decide) (by decide) (by decide) (by decide)))) (ep_op (ep_var rfl) ep_int (r2_intC (C := CMulW) (g := fun i j => i * j) (sm (y := 16) hib (by decide) (by decide) (by decide) (by decide)))) r2_int) ep_int r2_int) ea_nil) rc_intI) ep_int (r2_intC (C := fun _ j => 0 < j) (g := fun i j => i % j) (by decide))) rfl (sd_go ?_))
        refine sd_forRW (n := 5) (fun j E => ∃ (ds : List Int) (m : Int), 0 ≤ m ∧ m < 2147483647 ∧ E = [.val (.lst (ns.map D.int)), .own q (ds.map D.int), .val (.int i), .val (.int c), .no, .val (.int m)] ∧ ds.length ≤ 40 * i + j) (ea_cons ep_int ea_nil) (by decide) ⟨ds, _, Int.emod_nonneg _ (by decide), Int.emod_lt_of_pos _ (by decide), rfl, by omega⟩ ?_ ?_
        · rintro j E hj ⟨ds, m, m0, m1, rfl, hd⟩
          have hmb : m.natAbs < 2 ^ 32 := by omega
          have hjb : ((j : Nat) : Int).natAbs < 2 ^ 16 := by omega
          refine sd_seq (sd_asg (d := .int ((m * m + i * 613 + j * 89 + 17) % 2147483629)) (ep_op (ep_cb (ea_cons (ep_op (ep_op (ep_op (ep_op (ep_var rfl) (ep_var rfl) (r2_intC (C := CMulW) (g := fun i j => i * j) (sm (x := 32) (y := 32) hmb hmb (by decide) (by decide) (by decide)))) (ep_op (ep_var rfl) ep_int (r2_intC (C := CMulW) (g := fun i j => i * j) (sm (y := 16) hib (by decide) (by decide) (by decide) (by decide)))) r2_int)
            (ep_op (ep_var rfl) ep_int (r2_intC (C := CMulW) (g := fun i j => i * j) (sm (y := 16) hjb (by decide) (by decide) (by decide) (by decide)))) r2_int) ep_int r2_int) ea_nil) rc_intI) ep_int (r2_intC (C := fun _ j => 0 < j) (g := fun i j => i % j) (by decide))) rfl (sd_go ?_))
          have b0 : 0 ≤ (m * m + i * 613 + j * 89 + 17) % 2147483629 := Int.emod_nonneg _ (by decide)
          have b1 : (m * m + i * 613 + j * 89 + 17) % 2147483629 < 2147483629 := Int.emod_lt_of_pos _ (by decide)
          generalize (m * m + i * 613 + j * 89 + 17) % 2147483629 = m' at b0 b1
          refine sd_app (p := q) (i := 1) (l := ds.map D.int) (d := .int (m' / 16)) rfl (ep_op (ep_var rfl) ep_int (r2_intC (C := CDiv) (g := fun i j => i / j) ⟨by decide, by decide⟩)) rfl (by rw [List.length_map]; omega) ?_
          refine sd_lw (E' := [.val (.lst (ns.map D.int)), .own q ((ds ++ [m' / 16]).map D.int), .val (.int i), .val (.int c), .no, .val (.int m')]) ⟨_, m', b0, by omega, rfl, by simp; omega⟩ ?_
          rw [List.map_append]
          exact .eq (.eq (.eq (.eq (.no (.eq .nil)))))
        · rintro E ⟨ds, m, _, _, rfl, hd⟩
          exact sd_lw (E' := [.val (.lst (ns.map D.int)), .own q (ds.map D.int), .no, .no, .no, .no]) ⟨ds, rfl, by have : ((5 : Int)).toNat = 5 := rfl; omega⟩ (.eq (.eq (.no (.no (.eq (.no .nil))))))
    refine sd_seq (sd_if (et_test (ep_op (ep_var (i := 3) rfl) ep_int (r2_cmp (g := fun i j => decide (i < j))))) (fun h => ?_) (fun h => sd_go (rest _ ?_)))
    · have := of_decide_eq_true h
      exact sd_asg (d := .int (7 - ns[i])) (ep_op ep_int (ep_var rfl) r2_int) rfl (sd_go (rest _ (by omega)))
    · have := of_decide_eq_false h
      omega
  · rintro E ⟨ds, rfl, hd⟩
    exact sd_go (sd_retF (ef_rev (ep_own rfl)) (o _ ⟨ds.reverse, by rw [List.map_reverse]⟩).rt)
end
end Y
set_option Elab.async false
set_option linter.all false
set_option autoImplicit false
set_option maxRecDepth 100000
set_option maxHeartbeats 4000000
namespace Y
open PySem L2
section
variable {K : PySem.W.Frag} {B : List Addr} {H0 : Hp} {Z : Hp → Prop} {E : List Slot} {te : TE} {l m : List D} {De : Ends}
/-- xs.extend(ys), own lists -/
theorem sd_ext {i j : Nat} {p q : Addr} (hi : E[i]? = some (.own p l)) (hj : E[j]? = some (.own q m)) (hz : l.length + m.length < 100000) (k : SD K B H0 Z tNext De (E.set i (.own p (l ++ m)))) :
    SD K B H0 Z (tDrop (tBM K "list" rExtend (tVar i) (tCons (tVar j) tNil))) De E := fun σ H e => by
  obtain ⟨h1, vs, h2, h3⟩ := e.own i p l hi
  obtain ⟨g1, us, g2, g3⟩ := e.own j q m hj
  refine ⟨_, h1, .inl ⟨rfl, vs, SqL.of h2⟩, _, g1, p, q, vs, us, rfl, rfl, h2, g2, ?_, k σ _ (e.chg hi (h3.append g3))⟩
  rw [h3.length, g3.length, sizeLine_eq]
  omega
theorem pi_listY {X : Cx} {K : PySem.W.Frag} {tg e : Expr} {tl : TE} (hK : X.K = K) (hl : PE X e tl) : PI X tg e (iList K tl) := hK ▸ pi_list hl
theorem pi_tupY {X : Cx} {K : PySem.W.Frag} {tg e : Expr} {tl : TE} (hK : X.K = K) (hl : PE X e tl) : PI X tg e (iTup K tl) := hK ▸ pi_tup hl
theorem pe_fldY {X : Cx} {K : PySem.W.Frag} {o : Expr} {f : Str} {pos : Pos} {ta : TE} (he : PE X o ta) (hb : attributeBase o f X.env (eval o X.env) = eval o X.env) (hK : X.K = K) : PE X (.Attribute o f pos) (tFld K ta f) := hK ▸ pe_fld he hb
theorem atI_nat {i : Nat} {d : D} (h : l[i]? = some d) : atI l (i : Int) = some d := by
  have hi := (List.getElem?_eq_some_iff.mp h).1
  unfold atI ixN
  rw [if_pos (by omega), if_pos (by omega)]
  have : ((i : Int)).toNat = i := by omega
  rw [this]
  exact h
end
section
variable {P : Program} {w : World} {K : PySem.W.Frag} {mg : Str → Option Value} {base : Heap}
/-! lots_put -/
abbrev s_lots_put : Stmt := topS 28
abbrev N_lots_put : List Str := ["lots", "shares", "made", "lot", "rows", "e", "row", "more"]
theorem sc_lots_put : FnScope N_lots_put ["lots", "shares"] (defScope s_lots_put) := ⟨rfl, rfl, rfl, by decide +kernel, rfl, by decide +kernel, by decide +kernel⟩
structure PutOk (lots : List (List Nat)) (sh : List (List (List Nat))) : Prop where
  e : ∀ l ∈ lots, ∀ e ∈ l, e < sh.length
  rl : ∀ l ∈ lots, ∀ i, (KM.putR sh (l.take i)).length < 20000 ∧ ∀ r ∈ KM.putR sh (l.take i), r.length < 20000
  ml : ∀ s ∈ sh, ∀ m ∈ s, m.length < 20000
  tl : (KM.putL lots sh).length < 20000
  ne : (KM.putL lots sh).length ≤ 1 ∨ ∀ t ∈ KM.putL lots sh, t ≠ []
def p_put (ds : List D) (d : D) : Prop := ∃ (lots : List (List Nat)) (sh : List (List (List Nat))), PutOk lots sh ∧ ds = [tsD lots, .lst (sh.map lsD)] ∧ d = tsD (KM.srt (KM.putL lots sh))
theorem fm_tD {α : Type} (ts : List α) (f : α → List (List Nat)) : (ts.flatMap f).map tD = ts.flatMap fun a => (f a).map tD := by
  rw [List.map_flatMap]
theorem ok_lots_put {f : Addr} {fd : FuncData} (F : Fun K "lots_put" "lots_put" s_lots_put f fd) (T : Txt mg) : FnOk P w K mg base CX0 1 f fd ["lots", "shares"] (Pure K p_put) := by
  refine pure_ok F sc_lots_put (fun ds d h => by obtain ⟨_, _, _, rfl, _⟩ := h; rfl) (by decide) fun cdv A outer s H E hr => ?_
  have hu := hr.units
  refine ⟨_, (pss_cons (ps_set (i := 2) sc_lots_put.nd rfl (Or.inl rfl) (pe_lst pa_nil))
    (pss_cons (ps_for PassesOwn.never rfl (pi_tup (pv 0)) (pg_name (i := 3) sc_lots_put.nd rfl (Or.inl rfl))
    (pss_cons (ps_set (i := 4) sc_lots_put.nd rfl (Or.inl rfl) (pe_lst (pa_cons (pe_tup pa_nil) pa_nil)))
    (pss_cons (ps_for PassesOwn.never rfl (pi_tup (pv 3)) (pg_name (i := 5) sc_lots_put.nd rfl (Or.inr rfl))
    (pss_one (ps_setLc2 (i := 4) (own := [("row", 6), ("more", 7)]) (vs1 := [7]) (g := gName 6) (g1 := gName 7) rfl sc_lots_put.nd rfl rfl (sw_true rfl rfl rfl (by decide +kernel)) (pi_list (pv 4)) (blkOk_by (N := N_lots_put) (sc := defScope s_lots_put) (by decide +kernel)) (by decide) (fun _ _ _ _ _ => pg_name (i := 6) sc_lots_put.nd rfl (Or.inl rfl)) (fun _ _ _ _ _ => pts_nil)
      (fun _ _ _ _ _ => pi_listY rfl (pe_ix (r := rIxL K) ix_list (pv 1) (pv 5) (fun _ _ => rfl))) (fun _ _ _ _ _ => pg_name (i := 7) sc_lots_put.nd rfl (Or.inl rfl)) (fun _ _ _ _ _ => pts_nil) (fun _ _ _ _ _ => (pe_op (r := rCatA K) op_catA (pv 6) (pv 7))))))
    (pss_one (ps_expr (pe_bm PySem.F.plainAttrs_list PySem.F.slot_list_extend PySem.F.type_list_extend mt_extend (pv 2) (pa_cons (pv 4) pa_nil)))))))
    (pss_one (ps_ret (pe_callTy (r := rTupOf K) call_tupY (by rfl) T.tuple (by decide +kernel) (pa_cons (pe_callB (r := rSortY K) (cr_sortY hu) (by rfl) T.sorted (by decide +kernel) (pa_cons (pv 2) pa_nil)) pa_nil)))))), ?_⟩
  rintro ds d ⟨ls, sh, hp, rfl, rfl⟩ De o
  refine sd_seq (sd_asgO (ef_lst ea_nil) rfl fun p => sd_go ?_)
  refine sd_seq (sd_forTW (c := tD) (ts := ls) (fun i E => E = [.val (tsD ls), .val (.lst (sh.map lsD)), .own p ((KM.putL (ls.take i) sh).map tD), .no, .no, .no, .no, .no]) (ec_var rfl) rfl ?_ ?_)
  · rintro Z' i l E hl rfl
    have hlm : l ∈ ls := List.mem_of_getElem? hl
    refine sd_seq (sd_asgO (ef_lst (ea_cons (ep_tup ea_nil) ea_nil)) rfl fun q0 => sd_go ?_)
    refine sd_seq (sd_forTW (c := iD) (ts := l) (fun j E => ∃ q, E = [.val (tsD ls), .val (.lst (sh.map lsD)), .own p ((KM.putL (ls.take i) sh).map tD), .val (tD l), .own q ((KM.putR sh (l.take j)).map tD), .no, .no, .no]) (ec_im (ep_is (ep_var (i := 3) (d := tD l) rfl) (tD_eq l)) (by rw [← tD_eq]; exact tD_im l)) ⟨q0, rfl⟩ ?_ ?_)
    · rintro Z2 j e E he ⟨q, rfl⟩
      have hem : e ∈ l := List.mem_of_getElem? he
      have hes := hp.e l hlm e hem
      have hst : KM.putR sh (l.take (j + 1)) = KM.putS sh (KM.putR sh (l.take j)) e := by
        unfold KM.putR
        rw [take_step he, List.foldl_append]
        rfl
      have hr1 := hp.rl l hlm j
      have hr2 := hp.rl l hlm (j + 1)
      have hg : sh.getD e [] = sh[e] := by simp [List.getD, List.getElem?_eq_getElem hes]
      have hsm := hp.ml sh[e] (List.getElem_mem hes)
      rw [hst] at hr2
      have eq0 : ((KM.putR sh (l.take j)).flatMap fun a => (sh[e]).map fun more => tD (a ++ more)) = ((KM.putR sh (l.take j)).flatMap fun row => (sh[e]).map fun more => row ++ more).map tD := by
        rw [fm_tD]
        congr 1
        funext a
        rw [List.map_map]
        rfl
      refine sd_asgO (l := (KM.putS sh (KM.putR sh (l.take j)) e).map tD) (ef_is (ef_lc2LL (j := 6) (j1 := 7) (by decide) tD (ts := KM.putR sh (l.take j)) tD (fun _ => sh[e]) (fun row more => tD (row ++ more)) (ep_own (i := 4) rfl) (fun _ _ => tD_im _) (fun _ _ _ _ => tD_im _) (fun _ _ _ _ => tD_im _) ?_ (fun a ha => ?_) (fun a ha b hb => ?_)) ?_) (imAll_tD _) fun q' => sd_lw ⟨q', rfl⟩ ?_
      · have := hr2.1
        unfold KM.putS at this
        rw [hg] at this
        rw [eq0, List.length_map]
        exact Nat.lt_of_lt_of_le this (by decide)
      · refine erd_ix (k := (e : Int)) (erd_var (i := 1) rfl) (erd_var (i := 5) rfl) (atI_nat ?_)
        rw [List.getElem?_map, List.getElem?_eq_getElem hes]
        rfl
      · refine ep_is (ep_op (ep_is (ep_var (i := 6) (d := tD a) rfl) (tD_eq a)) (ep_is (ep_var (i := 7) (d := tD b) rfl) (tD_eq b)) (r2_catA (by rw [List.length_map, List.length_map]; have := hr1.2 a ha; have := hsm b hb; omega))) (by rw [tD_eq, List.map_append])
      · unfold KM.putS
        rw [hg, eq0]
      · show LeE [_, _, _, _, _, _, _, _] [_, _, _, _, _, _, _, _]
        rw [hst]
        exact .eq (.eq (.eq (.eq (.eq (.no (.eq (.eq .nil)))))))
    · rintro E ⟨q, rfl⟩
      rw [List.take_length]
      refine sd_go (sd_ext (i := 2) (j := 4) rfl rfl ?_ (sd_lw rfl ?_))
      · have h1 : (KM.putL (ls.take (i + 1)) sh).length ≤ (KM.putL ls sh).length := by
          have := fl_le (l := ls) (i := i + 1) fun l => (KM.putR sh l).map tD
          unfold KM.putL
          rw [List.length_flatMap, List.length_flatMap] at this ⊢
          simpa using this
        have h2 : KM.putL (ls.take (i + 1)) sh = KM.putL (ls.take i) sh ++ KM.putR sh l := by
          unfold KM.putL
          rw [take_step hl, List.flatMap_append]
          simp
        rw [h2, List.length_append] at h1
        rw [List.length_map, List.length_map]
        have := hp.tl
        omega
      · have h2 : KM.putL (ls.take (i + 1)) sh = KM.putL (ls.take i) sh ++ KM.putR sh l := by
          unfold KM.putL
          rw [take_step hl, List.flatMap_append]
          simp
        rw [h2, List.map_append]
        exact .eq (.eq (.eq (.no (.no (.eq (.eq (.eq .nil)))))))
  · rintro E rfl
    rw [List.take_length]
    exact sd_go (sd_ret (ep_cb (ea_cons (EF.p (ef_cb (ea_cons (ep_own (i := 2) rfl) ea_nil) (rf_sortY hp.ne))) ea_nil) rc_tupleL) o.rt)
end
end Y
set_option Elab.async false
set_option linter.all false
set_option autoImplicit false
set_option maxRecDepth 100000
set_option maxHeartbeats 4000000
namespace Y
open PySem L2
/-- an own exception class with a number | a text -/
structure XcK (P : Program) (K : PySem.W.Frag) (mg : Str → Option Value) (nm txt : Str) (C f : Addr) : Prop where
  c : ExcK K P C f txt
  m : mg nm = some (.ref C)
  s : mg "super" = none
structure XcS (P : Program) (K : PySem.W.Frag) (mg : Str → Option Value) (nm txt : Str) (C f : Addr) : Prop where
  c : ExcS K P C f txt
  m : mg nm = some (.ref C)
  s : mg "super" = none
section
variable {K : PySem.W.Frag} {B : List Addr} {H0 : Hp} {Z : Hp → Prop} {E : List Slot} {te : TE} {d : D} {l m : List D} {De : Ends}
/-- xs.append(e), e apart -/
theorem sd_appC {i : Nat} {p : Addr} (hi : E[i]? = some (.own p l)) (h : EC K B H0 Z te E d) (hz : l.length < 100000) (k : SD K B H0 Z tNext De (E.set i (.own p (l ++ [d])))) :
    SD K B H0 Z (tDrop (tBM K "list" rAppend (tVar i) (tCons te tNil))) De E := fun σ H e => by
  obtain ⟨h1, vs, h2, h3⟩ := e.own i p l hi
  refine ⟨_, h1, .inl ⟨rfl, vs, SqL.of h2⟩, h σ H e _ fun v H1 e1 q => ?_⟩
  have e' := e.ext e1
  obtain ⟨_, ws, g2, g3⟩ := e'.own i p l hi
  refine ⟨p, ws, v, rfl, rfl, g2, ?_, k σ _ (e'.chg hi (g3.append (.one q)))⟩
  rw [g3.length, sizeLine_eq]
  omega
end
def xP (n : Int) : XF := [("place", .int n)]
def xW (s : Str) : XF := [("word", .str s)]
def xS (n : Int) : XF := [("size", .int n)]
def xT (y : V) : XF := [("thing", y)]
def xL (n : Int) (s : Str) : XF := [("word", .str s), ("thing", .int n)]
abbrev Rws := List (Nat × List (List Nat))
def fms (C : Addr) (rows : Rws) : List D := rows.map fun r => famD C r.1 r.2
theorem fms_len (C : Addr) (rows : Rws) : (fms C rows).length = rows.length := List.length_map ..
theorem famD_im (C : Addr) (n : Nat) (L : List (List Nat)) : (famD C n L).im = true := by
  show imAll [iD n, tsD L] = true
  show (true && ((tsD L).im && true)) = true
  rw [show (tsD L).im = true from imAll_tD L]
  rfl
theorem fms_im (C : Addr) (rows : Rws) : imAll (fms C rows) = true := imAll_map (fun _ => famD_im _ _ _) rows
section
variable {P : Program} {w : World} {K : PySem.W.Frag} {mg : Str → Option Value} {base : Heap}
/-! family_list -/
abbrev s_family_list : Stmt := topS 35
abbrev N_family_list : List Str := ["families", "place"]
theorem sc_family_list : FnScope N_family_list ["families"] (defScope s_family_list) := ⟨rfl, rfl, rfl, by decide +kernel, rfl, by decide +kernel, by decide +kernel⟩
def p_flist (C : Addr) (ds : List D) (d : D) : Prop := ∃ (rows : Rws) (s : D), rows.length < 20000 ∧ Seq s (fms C rows) ∧ ds = [s] ∧ d = .tup (fms C rows)
def q_flist (C CF : Addr) (ds : List D) (C' : Addr) (x : XF) : Prop := C' = CF ∧ ((∃ (e : D) (ty : String), e.tyN = some ty ∧ (ty == "list" || ty == "tuple") = false ∧ ds = [e] ∧ x = xP (-1)) ∨
  ∃ (rows : Rws) (e : D) (ty : String) (r : List D) (s : D), rows.length < 20000 ∧ r.length < 20000 ∧ e.tyN = some ty ∧ Seq s (fms C rows ++ e :: r) ∧ ds = [s] ∧ x = xP (rows.length : Int))
theorem Seq.tup {K : PySem.W.Frag} {s : D} {l : List D} (h : Seq s l) : RCd K (rTupOf K) [s] (.tup l) := by
  rcases h with rfl | rfl
  · exact rc_tupleT
  · exact rc_tupleL
theorem ok_family_list {f C CF fF : Addr} {fd : FuncData} (F : Fun K "family_list" "family_list" s_family_list f fd) (T : Txt mg) (fc : FamC K mg C) (ni : NotI K C) (xF : XcK P K mg "BadFamily" "bad family: place " CF fF) :
    FnOk P w K mg base (L2.CX P w) 2 f fd ["families"] (PureE K (p_flist C) (q_flist C CF)) := by
  refine pureE_ok F sc_family_list (fun ds h => by
    rcases h with ⟨d, _, _, _, _, rfl, _⟩ | ⟨_, _, _, ⟨_, _, _, _, rfl, _⟩ | ⟨_, _, _, _, _, _, _, _, _, rfl, _⟩⟩ <;> rfl) (by decide) fun cdv A outer s H E hr => ?_
  have tk : L2.Takes (cxOf (L2.CX P w) P w K mg base N_family_list "family_list" (defScope s_family_list) f cdv A outer s H E) (fun cls d _ H => E cls d H) := takes_of rfl rfl rfl rfl
  have po : PassesOwn (model P w) (cxOf (L2.CX P w) P w K mg base N_family_list "family_list" (defScope s_family_list) f cdv A outer s H E).A (cxOf (L2.CX P w) P w K mg base N_family_list "family_list" (defScope s_family_list) f cdv A outer s H E).env (cxOf (L2.CX P w) P w K mg base N_family_list "family_list" (defScope s_family_list) f cdv A outer s H E).xe := passes_of rfl
  refine ⟨_, (pss_cons (ps_if (pt_not (pt_val (pe_callB (r := rIsiT K) call_isiT (by rfl) T.isinstance (by decide +kernel) (pa_cons (pv 0) (pa_cons (pe_tup (pa_cons (pe_bltn (v := .ty "list") (by rfl) T.list (by decide +kernel) rfl) (pa_cons (pe_bltn (v := .ty "tuple") (by rfl) T.tuple (by decide +kernel) rfl) pa_nil))) pa_nil)))))
      (pss_one (ps_raise (by rfl) tk (pmk_exc (k := 0) xF.c (by decide) (hr.mono (by decide)) (by rfl) xF.m xF.s (pa_cons (pe_un un_neg pe_int) pa_nil)))) pss_nil)
    (pss_cons (ps_for po rfl (pi_range1 (by rfl) T.range (pa_cons (pe_callB (r := rLen K) call_lenY (by rfl) T.len PySem.boot_len (pa_cons (pv 0) pa_nil)) pa_nil)) (pg_name (i := 1) sc_family_list.nd rfl (Or.inl rfl))
    (pss_one (ps_if (pt_not (pt_val (pe_callB (r := rIsi K) call_isi (by rfl) T.isinstance (by decide +kernel) (pa_cons (pe_ix (r := rIx K) ix_seq (pv 0) (pv 1) (fun _ _ => rfl)) (pa_cons (pe_glob (v := .ref C) (by rfl) fc.m rfl) pa_nil)))))
      (pss_one (ps_raise (by rfl) tk (pmk_exc (k := 0) xF.c (by decide) (hr.mono (by decide)) (by rfl) xF.m xF.s (pa_cons (pv 1) pa_nil)))) pss_nil)))
    (pss_one (ps_ret (pe_callTy (r := rTupOf K) call_tupY (by rfl) T.tuple (by decide +kernel) (pa_cons (pv 0) pa_nil)))))), ?_, ?_⟩
  · rintro ds d ⟨rows, sq, hz, hs, rfl, rfl⟩ De o
    obtain ⟨ty, ht, hty⟩ := hs.ty
    obtain ⟨_, _, k1, k2⟩ := kit_int (tyN_mem ht)
    refine sd_seq (sd_if (et_not (et_B (ep_isiT (ep_var rfl) ht k1 k2))) (fun h => ?_) (fun h => sd_go ?_))
    · rw [hty] at h
      cases h
    refine sd_seq (sd_forRP (n := (rows.length : Int)) (fun _ => True) (ea_cons (ep_is (ep_cb (ea_cons (ep_var rfl) ea_nil) hs.len) (by rw [fms_len])) ea_nil) (by omega) (fun i => [.val sq, .no]) rfl trivial (fun i hi _ => ?_) (fun _ => sd_go ?_))
    · have hi' : i < rows.length := by omega
      have e1 : (fms C rows)[i]? = some (famD C rows[i].1 rows[i].2) := by unfold fms; rw [List.getElem?_map, List.getElem?_eq_getElem hi']; rfl
      refine sd_if (et_not (et_B (ep_isiO (ep_op (ep_var rfl) (ep_var (d := iD i) rfl) (hs.ix e1)) fc.ob))) (fun h => by cases h) (fun h => sd_lp trivial (.eq (.no .nil)))
    · exact sd_ret (ep_cb (ea_cons (ep_var rfl) ea_nil) hs.tup) o.rt
  · rintro ds C' x ⟨rfl, hq⟩ De o
    rcases hq with ⟨e, ty, he, hty, rfl, rfl⟩ | ⟨rows, e, ty, r, sq, hz, hz2, he, hs, rfl, rfl⟩
    · obtain ⟨_, _, k1, k2⟩ := kit_int (tyN_mem he)
      refine sd_seq (sd_if (et_not (et_B (ep_isiT (ep_var rfl) he k1 k2))) (fun h => ?_) (fun h => ?_))
      · exact sd_raiseF (ea_cons (ep_un (x := .int 1) ep_int r1_neg) ea_nil) (by decide) (wf_of o)
      · rw [hty] at h
        cases h
    · obtain ⟨ty2, ht, hty⟩ := hs.ty
      obtain ⟨_, _, k1, k2⟩ := kit_int (tyN_mem ht)
      refine sd_seq (sd_if (et_not (et_B (ep_isiT (ep_var rfl) ht k1 k2))) (fun h => ?_) (fun h => sd_go ?_))
      · rw [hty] at h
        cases h
      have hlen : ((fms C rows ++ e :: r).length : Int) = ((rows.length + r.length + 1 : Nat) : Int) := by rw [List.length_append, fms_len, List.length_cons]; omega
      refine sd_seq (sd_forRP (n := ((rows.length + r.length + 1 : Nat) : Int)) (fun i => i ≤ rows.length) (ea_cons (ep_is (ep_cb (ea_cons (ep_var rfl) ea_nil) hs.len) (by rw [hlen])) ea_nil) (by omega) (fun i => [.val sq, .no]) rfl (Nat.zero_le _) (fun i hi hp => ?_) (fun hp => by omega))
      by_cases hi' : i < rows.length
      · have e1 : (fms C rows ++ e :: r)[i]? = some (famD C rows[i].1 rows[i].2) := by
          rw [List.getElem?_append_left (by rw [fms_len]; exact hi')]
          unfold fms
          rw [List.getElem?_map, List.getElem?_eq_getElem hi']
          rfl
        exact sd_if (et_not (et_B (ep_isiO (ep_op (ep_var rfl) (ep_var (d := iD i) rfl) (hs.ix e1)) fc.ob))) (fun h => by cases h) (fun h => sd_lp hi' (.eq (.no .nil)))
      · have hie : i = rows.length := by omega
        subst hie
        have e1 : (fms C rows ++ e :: r)[rows.length]? = some e := by
          rw [List.getElem?_append_right (by rw [fms_len]; exact Nat.le_refl _), fms_len, Nat.sub_self]
          rfl
        exact sd_if (et_not (et_B (ep_isiN ni (ep_op (ep_var rfl) (ep_var (d := iD rows.length) rfl) (hs.ix e1)) he (tyN_mem he)))) (fun h => sd_raiseF (ea_cons (ep_var rfl) ea_nil) (by omega) (wf_of o)) (fun h => by cases h)
/-! families_for -/
abbrev s_families_for : Stmt := topS 36
abbrev N_families_for : List Str := ["family", "families", "found"]
theorem sc_families_for : FnScope N_families_for ["family", "families"] (defScope s_families_for) := ⟨rfl, rfl, rfl, by decide +kernel, rfl, by decide +kernel, by decide +kernel⟩
def p_ffor (C : Addr) (ds : List D) (d : D) : Prop := ∃ (n : Nat) (L : List (List Nat)) (rows : Rws) (s : D), n < 1000 ∧ rows.length = n ∧ Seq s (fms C rows) ∧ ds = [famD C n L, s] ∧ d = .tup (fms C rows)
theorem ok_families_for {f C CF : Addr} {fd : FuncData} (F : Fun K "families_for" "families_for" s_families_for f fd) (T : Txt mg) (fc : FamC K mg C) (c_family_list : Cl P w K mg base 2 "family_list" (PureE K (p_flist C) (q_flist C CF))) : FnOk P w K mg base CX0 3 f fd ["family", "families"] (Pure K (p_ffor C)) := by
  refine pure_ok F sc_families_for (fun ds d h => by obtain ⟨_, _, _, _, _, _, _, rfl, _⟩ := h; rfl) (by decide) fun cdv A outer s H E hr => ?_
  refine ⟨_, (pss_cons (ps_set (i := 2) sc_families_for.nd rfl (Or.inl rfl) (pe_cl c_family_list hr (by decide) (by rfl) (pa_cons (pv 1) pa_nil)))
    (pss_cons (ps_if (pt_cmpR op_ne (pe_callB (r := rLen K) call_lenY (by rfl) T.len PySem.boot_len (pa_cons (pv 2) pa_nil)) (pe_fld (pv 0) rfl) (nomark _)) pss_never pss_nil)
    (pss_one (ps_ret (pv 2))))), ?_⟩
  rintro ds d ⟨n, L, rows, sq, hn, hl, hs, rfl, rfl⟩ De o
  refine sd_seq (sd_asg (d := .tup (fms C rows)) (ep_callE (ea_cons (ep_var rfl) ea_nil) ⟨rows, sq, by omega, hs, rfl, rfl⟩) (fms_im C rows) (sd_go ?_))
  refine sd_seq (sd_if (et_test (ep_op (ep_cb (ea_cons (ep_var (i := 2) (d := .tup (fms C rows)) rfl) ea_nil) rc_lenTn) (ep_fld (ep_var rfl) fc.ob.cl fc.nt rfl) r2_neN)) (fun h => ?_) (fun h => sd_go ?_))
  · rw [hl] at h
    simp at h
  · exact sd_ret (ep_var rfl) o.rt
/-! starts_of -/
abbrev s_starts_of : Stmt := topS 37
abbrev N_starts_of : List Str := ["families", "starts", "start", "family"]
theorem sc_starts_of : FnScope N_starts_of ["families"] (defScope s_starts_of) := ⟨rfl, rfl, rfl, by decide +kernel, rfl, by decide +kernel, by decide +kernel⟩
def p_starts (C : Addr) (ds : List D) (d : D) : Prop := ∃ rows : Rws, rows.length < 20000 ∧ ds = [.tup (fms C rows)] ∧ d = tD (KM.starts (rows.map (·.1)))
theorem ok_starts_of {f C : Addr} {fd : FuncData} (F : Fun K "starts_of" "starts_of" s_starts_of f fd) (T : Txt mg) (fc : FamC K mg C) : FnOk P w K mg base CX0 1 f fd ["families"] (Pure K (p_starts C)) := by
  refine pure_ok F sc_starts_of (fun ds d h => by obtain ⟨_, _, rfl, _⟩ := h; rfl) (by decide) fun cdv A outer s H E hr => ?_
  refine ⟨_, (pss_cons (ps_set (i := 1) sc_starts_of.nd rfl (Or.inl rfl) (pe_lst pa_nil))
    (pss_cons (ps_set (i := 2) sc_starts_of.nd rfl (Or.inl rfl) pe_int)
    (pss_cons (ps_for PassesOwn.never rfl (pi_tup (pv 0)) (pg_name (i := 3) sc_starts_of.nd rfl (Or.inl rfl))
    (pss_cons (ps_expr (pe_bm PySem.F.plainAttrs_list PySem.F.slot_list_append PySem.F.type_list_append mt_append (pv 1) (pa_cons (pv 2) pa_nil)))
    (pss_one (ps_set (i := 2) sc_starts_of.nd rfl (Or.inl rfl) (pe_op op_add (pv 2) (pe_fld (pv 3) rfl))))))
    (pss_one (ps_ret (pe_callTy (r := rTupOf K) call_tupY (by rfl) T.tuple (by decide +kernel) (pa_cons (pv 1) pa_nil))))))), ?_⟩
  rintro ds d ⟨rows, hz, rfl, rfl⟩ De o
  refine sd_seq (sd_asgO (ef_lst ea_nil) rfl fun p => sd_go ?_)
  refine sd_seq (sd_asg (d := iD 0) ep_int rfl (sd_go ?_))
  let St : Nat → List Nat × Nat := fun i => ((rows.take i).map (·.1)).foldl KM.startsS ([], 0)
  refine sd_seq (sd_forTW (c := fun (r : Nat × List (List Nat)) => famD C r.1 r.2) (ts := rows) (fun i E => E = [.val (.tup (fms C rows)), .own p ((St i).1.map iD), .val (iD (St i).2), .no]) (ec_var rfl) rfl ?_ ?_)
  · rintro Z' i r E hr' rfl
    have hst : St (i + 1) = KM.startsS (St i) r.1 := by
      simp only [St]
      rw [take_step hr', List.map_append, List.foldl_append]
      rfl
    have hlen : (St i).1.length < 20000 := by
      have := KM.starts_len ((rows.take i).map (·.1))
      unfold KM.starts at this
      simp only [St]
      rw [this, List.length_map, List.length_take]
      omega
    refine sd_seq (sd_app (p := p) (i := 1) rfl (ep_var (i := 2) (d := iD (St i).2) rfl) rfl (by rw [List.length_map]; omega) (sd_go ?_))
    refine sd_asg (d := iD ((St i).2 + r.1)) (ep_is (ep_op (ep_var (i := 2) (d := iD (St i).2) rfl) (ep_fld (ep_var (i := 3) (d := famD C r.1 r.2) rfl) fc.ob.cl fc.nt rfl) r2_int) (by unfold iD; rw [Int.natCast_add])) rfl (sd_lw rfl ?_)
    rw [hst]
    unfold KM.startsS
    simp only [List.map_append]
    exact .eq (.eq (.eq (.no .nil)))
  · rintro E rfl
    refine sd_go (sd_ret (ep_is (ep_cb (ea_cons (ep_own (i := 1) rfl) ea_nil) rc_tupleL) ?_) o.rt)
    simp only [St]
    rw [List.take_length, tD_eq]
    rfl
end
end Y
set_option Elab.async false
set_option linter.all false
set_option autoImplicit false
set_option maxRecDepth 100000
set_option maxHeartbeats 4000000
namespace Y
open PySem L2
/-! the scope of a comprehension within a comprehension -/
def lcE (e : Expr) : Scope := match e with
  | .ListComp _ _ sc _ => sc
  | .SetComp _ _ sc _ => sc
  | _ => excScope
def argE (i : Nat) (e : Expr) : Expr := match e with
  | .Call f es _ _ => es.getD i f
  | _ => e
def stE (s : Stmt) : Expr := match s with
  | .Expr e _ => e
  | .Return (some e) _ => e
  | .Assign _ e _ => e
  | .For e _ _ _ _ => e
  | _ => .Constant .none 0 ⟨0, 0, 0, 0⟩
def forB (s : Stmt) : List Stmt := match s with
  | .For _ _ b _ _ => b
  | _ => []
def at_ (i : Nat) (l : List Stmt) : Stmt := l.getD i (.Pass ⟨0, 0, 0, 0⟩)
/-- what a family is made of, sets in any order -/
structure InG (n : Nat) (ls : List (List Nat)) : Prop where
  n1 : 1 ≤ n
  n2 : n ≤ 60
  ne : ls ≠ []
  len : ls.length < 20000
  lne : ∀ l ∈ ls, l ≠ []
  nd : ∀ l ∈ ls, l.Nodup
  lt : ∀ l ∈ ls, ∀ x ∈ l, x < n
theorem InOk.g {n : Nat} {ls : List (List Nat)} (h : InOk n ls) : InG n ls := ⟨h.n1, h.n2, h.ne, h.len, h.lne, fun l hl => (h.asc l hl).imp fun h => Nat.ne_of_lt h, h.lt⟩
theorem InG.srt {n : Nat} {ls : List (List Nat)} (h : InG n ls) : InOk n (ls.map KM.sortN) := by
  refine ⟨h.n1, h.n2, by simpa using h.ne, by rw [List.length_map]; exact h.len, fun l hl => ?_, fun l hl => ?_, fun l hl => ?_⟩ <;> obtain ⟨m, hm, rfl⟩ := List.mem_map.mp hl
  · intro z
    have := (KM.sortN_perm m).length_eq
    rw [z] at this
    exact h.lne m hm (List.length_eq_zero_iff.mp this.symm)
  · exact KM.sortN_nd (h.nd m hm)
  · exact fun x hx => h.lt m hm x (KM.sortN_mem.mp hx)
theorem nodup_le {l : List Nat} {n : Nat} (nd : l.Nodup) (h : ∀ x ∈ l, x < n) : l.length ≤ n := by
  have := nd.length_le_of_subset (l₂ := List.range n) fun x hx => List.mem_range.mpr (h x hx)
  rwa [List.length_range] at this
theorem InG.row {n : Nat} {ls : List (List Nat)} (h : InG n ls) {l : List Nat} (hl : l ∈ ls) : Row n l := ⟨by have := nodup_le (h.nd l hl) (h.lt l hl); have := h.n2; omega, h.nd l hl, h.lt l hl⟩
section
variable {P : Program} {w : World} {K : PySem.W.Frag} {mg : Str → Option Value} {base : Heap}
/-! ask_things, raising -/
def q_athings (CN : Addr) (ds : List D) (C' : Addr) (x : XF) : Prop := C' = CN ∧ ∃ e : D, e.tyN.isSome = true ∧ (isInt e 1 = false ∨ ∃ n : Nat, e = iD n ∧ 60 < n) ∧ ds = [e] ∧ x = xW "things"
theorem ok_ask_thingsE {f CN fN : Addr} {fd : FuncData} {tM : Tok} (F : Fun K "ask_things" "ask_things" s_ask_things f fd) (T : Txt mg) (hM : mg "MOST_THINGS" = some (.int 60 tM)) (xN : XcS P K mg "BadNumber" "bad number: " CN fN) (c_is_integer : Cl P w K mg base 1 "is_integer" (Pure K p_is_integer)) :
    FnOk P w K mg base (L2.CX P w) 2 f fd ["things"] (PureE K p_ask_things (q_athings CN)) := by
  refine pureE_ok F sc_ask_things (fun ds h => by
    rcases h with ⟨d, _, _, _, rfl, _⟩ | ⟨_, _, _, _, _, _, rfl, _⟩ <;> rfl) (by decide) fun cdv A outer s H E hr => ?_
  have tk : L2.Takes (cxOf (L2.CX P w) P w K mg base N_ask_things "ask_things" (defScope s_ask_things) f cdv A outer s H E) (fun cls d _ H => E cls d H) := takes_of rfl rfl rfl rfl
  refine ⟨_, (pss_one (ps_if (pw_or (pt_not (pt_val (pe_cl c_is_integer hr (by decide) (by rfl) (pa_cons (pv 0) (pa_cons pe_int pa_nil))))) (pw_or1 (pt_cmpR op_gt (pv 0) (pe_glob (v := .int 60) (by rfl) hM ⟨_, rfl⟩) (nomark _)))).pt
    (pss_one (ps_raise (by rfl) tk (pmk_exs (k := 0) xN.c (by decide) (hr.mono (by decide)) (by rfl) xN.m xN.s (pa_cons pe_str pa_nil)))) pss_nil)), ?_, ?_⟩
  · rintro ds d ⟨n, hn, hn2, rfl, rfl⟩ De o
    have e : isInt (iD n) 1 = true := by simp [isInt, iD]; omega
    have e2 : decide ((60 : Int) < (n : Int)) = false := decide_eq_false (by omega)
    refine sd_if (et_or (et_not (et_B (ep_call (ea_cons (ep_var rfl) (ea_cons ep_int ea_nil)) ⟨iD n, 1, rfl, rfl, rfl⟩))) fun _ => et_test (ep_op (ep_var rfl) ep_int (r2_cmp (g := fun i j => decide (j < i))))) (fun h => ?_) (fun h => sd_end o)
    rw [e, e2] at h
    cases h
  · rintro ds C' x ⟨rfl, e, he, hb, rfl, rfl⟩ De o
    have rs : ∀ {D' : Ends}, SD K [] H (fun _ => True) _ D' (entry N_ask_things [e]) := fun {D'} => sd_raiseS (De := D') (W := fun cls d _ H => E cls d H) (C := C') (n := "things") (ea_cons ep_str ea_nil) (by decide) (wf_of o)
    rcases hb with hb | ⟨n, rfl, hn⟩
    · refine sd_if (b := !isInt e 1 || false) (et_or (et_not (et_B (ep_call (ea_cons (ep_var rfl) (ea_cons ep_int ea_nil)) ⟨e, 1, he, rfl, rfl⟩))) fun h => by rw [hb] at h; cases h) (fun h => rs) (fun h => ?_)
      rw [hb] at h
      cases h
    · have e2 : decide ((60 : Int) < (n : Int)) = true := decide_eq_true (by omega)
      refine sd_if (et_or (et_not (et_B (ep_call (ea_cons (ep_var rfl) (ea_cons ep_int ea_nil)) ⟨iD n, 1, rfl, rfl, rfl⟩))) fun _ => et_test (ep_op (ep_var rfl) ep_int (r2_cmp (g := fun i j => decide (j < i))))) (fun h => rs) (fun h => ?_)
      rw [e2] at h
      simp at h
/-! checked_lot, of a list or a tuple -/
def p_checkedG (ds : List D) (d : D) : Prop := ∃ (l : List Nat) (n i : Nat) (s : D), 1 ≤ n ∧ Row n l ∧ l ≠ [] ∧ Seq s (l.map iD) ∧ ds = [s, iD i, iD n] ∧ d = tD (KM.sortN l)
theorem ok_checked_lotG {f : Addr} {fd : FuncData} {CB : Addr} (F : Fun K "checked_lot" "checked_lot" s_checked_lot f fd) (T : Txt mg) (c_set_of : Cl P w K mg base 3 "set_of" (PureX K p_set_of (q_set_of CB))) : FnOk P w K mg base CX0 4 f fd ["lot", "place", "things"] (Pure K p_checkedG) := by
  refine pure_ok F sc_checked_lot (fun ds d h => by obtain ⟨_, _, _, _, _, _, _, _, rfl, _⟩ := h; rfl) (by decide) fun cdv A outer s H E hr => ?_
  refine ⟨_, (pss_cons (ps_try_thru0 (pss_one (ps_set (i := 3) sc_checked_lot.nd rfl (Or.inl rfl) (pe_cl c_set_of hr (by decide) (by rfl) (pa_cons (pv 0) (pa_cons (pv 2) pa_nil))))))
    (pss_cons (ps_if (pt_cmpR op_eq (pe_callB (r := rLen K) call_lenY (by rfl) T.len PySem.boot_len (pa_cons (pv 3) pa_nil)) pe_int (nomark _)) pss_never pss_nil)
    (pss_one (ps_ret (pv 3))))), ?_⟩
  rintro ds d ⟨l, n, i, sq, hn, hl, hne, hs, rfl, rfl⟩ De o
  refine sd_seq (sd_asg (ep_callX (ea_cons (ep_var rfl) (ea_cons (ep_var rfl) ea_nil)) ⟨l, n, sq, hn, hl, hs, rfl, rfl⟩) (tD_im _) (sd_go ?_))
  have hz : (KM.sortN l).length ≠ 0 := by
    rw [(KM.sortN_perm l).length_eq]
    exact fun z => hne (List.length_eq_zero_iff.mp z)
  refine sd_seq (sd_if (et_test (ep_op (ep_is (ep_cb (ea_cons (ep_var (d := .tup ((KM.sortN l).map iD)) (by rw [← tD_eq]; rfl)) ea_nil) rc_lenTn) rfl) ep_n0 r2_eqN)) (fun h => ?_) (fun h => sd_go ?_))
  · exact absurd (by simpa using h) hz
  · exact sd_ret (ep_var rfl) o.rt
/-! Family's making, of lists or tuples -/
def p_initG (ds : List D) (ns : List Str) (l : List D) : Prop := ∃ (n : Nat) (ls : List (List Nat)) (c : List Nat → D) (s : D), InG n ls ∧ (c = tD ∨ c = nD) ∧ Seq s (ls.map c) ∧ ds = [iD n, s] ∧ ns = (["things", "lots"] : List Str) ∧ l = [iD n, tsD (KM.leastLots (ls.map KM.sortN))]
theorem cSeq {c : List Nat → D} (h : c = tD ∨ c = nD) (l : List Nat) : Seq (c l) (l.map iD) := by
  rcases h with rfl | rfl
  · exact .inl (tD_eq l)
  · exact .inr rfl
theorem cNob {c : List Nat → D} (h : c = tD ∨ c = nD) (l : List Nat) : (c l).nob = true := by
  rcases cSeq h l with e | e <;> rw [e]
  · exact nobAll_iff.mpr fun d hd => by obtain ⟨x, _, rfl⟩ := List.mem_map.mp hd; rfl
  · exact nobAll_iff.mpr fun d hd => by obtain ⟨x, _, rfl⟩ := List.mem_map.mp hd; rfl
theorem ok_initG {f C : Addr} {fd : FuncData} (F : Fun K "__init__" "Family.__init__" s_Family_init f fd) (T : Txt mg) (fc : FamC K mg C) (c_ask_things : Cl P w K mg base 2 "ask_things" (Pure K p_ask_things)) (c_checked_lot : Cl P w K mg base 4 "checked_lot" (Pure K p_checkedG))
    (c_least_lots : Cl P w K mg base 3 "least_lots" (Pure K p_least_lots)) : FnOk P w K mg base CX0 5 f fd ["self", "things", "lots"] (InitP K C p_initG) := by
  refine init_ok F sc_Family_init (fun ds ns l h => by obtain ⟨_, _, _, _, _, _, _, rfl, _⟩ := h; rfl) (by decide) fun cdv A outer s H E hr => ?_
  refine ⟨_, (pss_cons (ps_expr (pe_cl c_ask_things hr (by decide) (by rfl) (pa_cons (pv 1) pa_nil)))
    (pss_cons (ps_if (pt_not (pt_val (pe_callB (r := rIsiT K) call_isiT (by rfl) T.isinstance (by decide +kernel) (pa_cons (pv 2) (pa_cons (pe_tup (pa_cons (pe_bltn (v := .ty "list") (by rfl) T.list (by decide +kernel) rfl) (pa_cons (pe_bltn (v := .ty "tuple") (by rfl) T.tuple (by decide +kernel) rfl) pa_nil))) pa_nil))))) pss_never pss_nil)
    (pss_cons (ps_setLc (i := 3) (own := [("place", 4)]) (g := gName 4) rfl sc_Family_init.nd rfl rfl (sw_true rfl rfl rfl (by decide +kernel)) (pi_range1 (by rfl) T.range (pa_cons (pe_callB (r := rLen K) call_lenY (by rfl) T.len PySem.boot_len (pa_cons (pv 2) pa_nil)) pa_nil)) (blkOk_by (N := N_Family_init) (sc := defScope s_Family_init) (by decide +kernel)) (fun _ _ _ _ _ => pg_name (i := 4) sc_Family_init.nd rfl (Or.inl rfl)) (fun _ _ _ _ _ => pts_nil) (fun _ _ _ _ _ => (pe_cl c_checked_lot hr (by decide) (by rfl) (pa_cons (pe_ix (r := rIx K) ix_seq (pv 2) (pv 4) (fun _ _ => rfl)) (pa_cons (pv 4) (pa_cons (pv 1) pa_nil))))))
    (pss_cons (ps_if (pt_cmpR op_eq (pe_callB (r := rLen K) call_lenY (by rfl) T.len PySem.boot_len (pa_cons (pv 3) pa_nil)) pe_int (nomark _)) pss_never pss_nil)
    (pss_cons (ps_fld (pv 0) (pv 1) rfl)
    (pss_one (ps_fld (pv 0) (pe_cl c_least_lots hr (by decide) (by rfl) (pa_cons (pv 3) pa_nil)) rfl))))))), ?_⟩
  rintro ds ns l a dx ⟨n, ls, c, sq, hi, hc, hs, rfl, rfl, rfl⟩ De o
  obtain ⟨ty, ht, hty⟩ := hs.ty
  obtain ⟨_, _, k1, k2⟩ := kit_int (tyN_mem ht)
  refine sd_seq (sd_drop (ep_call (ea_cons (ep_var rfl) ea_nil) ⟨n, hi.n1, hi.n2, rfl, rfl⟩) (sd_go ?_))
  refine sd_seq (sd_if (et_not (et_B (ep_isiT (ep_var rfl) ht k1 k2))) (fun h => ?_) (fun h => ?_))
  · rw [hty] at h
    cases h
  refine sd_go ?_
  have hl2 := hi.len
  have e0 : EF K [a] H (ZI K a C dx [] []) (tLc (iRng1 (tCons (tCB (rLen K) (tCons (tVar 2) tNil)) tNil)) (gName 4) tYes (tCall (Pure K p_checkedG) [] E0 (tCons (tOp (rIx K) (tVar 2) (tVar 4)) (tCons (tVar 4) (tCons (tVar 1) tNil)))) [4]) (entry N_Family_init [.adr a, iD n, sq]) ((ls.map KM.sortN).map tD) := by
    have h1 := ef_lcR1 (K := K) (B := [a]) (H0 := H) (Z := ZI K a C dx [] []) (E := entry N_Family_init [.adr a, iD n, sq]) (j := 4) (n := (ls.length : Int)) (te := tCall (Pure K p_checkedG) [] E0 (tCons (tOp (rIx K) (tVar 2) (tVar 4)) (tCons (tVar 4) (tCons (tVar 1) tNil)))) (fun i => tD (KM.sortN (ls.getD i []))) (ea_cons (ep_is (ep_cb (ea_cons (ep_var (i := 2) rfl) ea_nil) hs.len) (by rw [List.length_map])) ea_nil) (by omega) (fun i hi' => ?_) (fun _ _ => tD_im _)
    · have e3 : (List.range ((ls.length : Int)).toNat).map (fun i => tD (KM.sortN (ls.getD i []))) = (ls.map KM.sortN).map tD := by
        have : ((ls.length : Int)).toNat = ls.length := by omega
        rw [this]
        refine List.ext_getElem (by simp) fun i h1 h2 => ?_
        have hlt : i < ls.length := by simpa using h2
        simp [List.getD, List.getElem?_eq_getElem hlt]
      rw [e3] at h1
      exact h1
    · have hlt : i < ls.length := by omega
      have e1 : (ls.map c)[i]? = some (c ls[i]) := by rw [List.getElem?_map, List.getElem?_eq_getElem hlt]; rfl
      have e2 : ls.getD i [] = ls[i] := by simp [List.getD, List.getElem?_eq_getElem hlt]
      have hm := List.getElem_mem hlt
      rw [e2]
      exact ep_call (ea_cons (ep_op (ep_var rfl) (ep_var (d := iD i) rfl) (hs.ix e1)) (ea_cons (ep_var (d := iD i) rfl) (ea_cons (ep_var rfl) ea_nil))) ⟨ls[i], n, i, c ls[i], hi.n1, hi.row hm, hi.lne _ hm, cSeq hc _, rfl, rfl⟩
  refine sd_seq (sd_asgL e0 (imAll_tD _) (sd_go ?_))
  refine sd_seq (sd_if (et_test (ep_op (ep_is (ep_cb (ea_cons (ep_var (d := .lst ((ls.map KM.sortN).map tD)) rfl) ea_nil) rc_lenLn) rfl) ep_n0 r2_eqN)) (fun h => ?_) (fun h => sd_go ?_))
  · exact absurd (by simpa using h) (by simpa using hi.ne)
  have nbT : ∀ l : List Nat, (tD l).nob = true := fun l => cNob (.inl rfl) l
  have nbL : ∀ ls : List (List Nat), nobAll (ls.map tD) = true := fun ls => nobAll_iff.mpr fun d hd => by obtain ⟨x, _, rfl⟩ := List.mem_map.mp hd; exact nbT x
  have nbC : nobAll (ls.map c) = true := nobAll_iff.mpr fun d hd => by obtain ⟨x, _, rfl⟩ := List.mem_map.mp hd; exact cNob hc x
  have nbS : sq.nob = true := by
    rcases hs with rfl | rfl
    · exact nbC
    · exact nbC
  have hE : ∀ s ∈ (entry N_Family_init [.adr a, iD n, sq]).set 3 (.val (.lst ((ls.map KM.sortN).map tD))), nobS s = true := fun s hs => by
    have : s ∈ [Slot.val (.adr a), .val (iD n), .val sq, .val (.lst ((ls.map KM.sortN).map tD)), .no] := hs
    simp only [List.mem_cons, List.not_mem_nil, or_false] at this
    rcases this with rfl | rfl | rfl | rfl | rfl
    · rfl
    · rfl
    · exact nbS
    · exact nbL _
    · rfl
  refine sd_seq (sd_fld (ep_var rfl) (ep_var (d := iD n) rfl) fc.ob.cl fc.nt hE rfl rfl rfl (by simp) (by simp) (sd_go ?_))
  refine sd_fld (ep_var rfl) (ep_call (ea_cons (ep_var (d := lsD (ls.map KM.sortN)) rfl) ea_nil) ⟨ls.map KM.sortN, hi.srt.lots, rfl, rfl⟩) fc.ob.cl fc.nl hE (tsD_im _) (nbL _) rfl (by decide) (by simp) ?_
  exact sd_endI o
end
end Y
set_option Elab.async false
set_option linter.all false
set_option autoImplicit false
set_option maxRecDepth 100000
set_option maxHeartbeats 4000000
namespace Y
open PySem L2
def sizeR (rows : Rws) : Nat := (rows.map (·.1)).sum
/-- families may be put in -/
structure CallOk (n : Nat) (L : List (List Nat)) (rows : Rws) : Prop where
  len : rows.length = n
  n3 : n < 1000
  s1 : 1 ≤ sizeR rows
  s2 : sizeR rows ≤ 60
  inn : ∀ r ∈ rows, r.2.length < 20000 ∧ ∀ l ∈ r.2, l.length < 20000
  put : PutOk L (KM.shares rows)
  out : InOk (sizeR rows) (KM.srt (KM.putL L (KM.shares rows)))
def putD (C : Addr) (L : List (List Nat)) (rows : Rws) : D := famD C (sizeR rows) (KM.leastLots (KM.srt (KM.putL L (KM.shares rows))))
def p_fcall (C : Addr) (ds : List D) (d : D) : Prop := ∃ (n : Nat) (L : List (List Nat)) (rows : Rws) (s : D), CallOk n L rows ∧ Seq s (fms C rows) ∧ ds = [famD C n L, s] ∧ d = putD C L rows
def q_fcall (C CN : Addr) (ds : List D) (C' : Addr) (x : XF) : Prop := C' = CN ∧ ∃ (n : Nat) (L : List (List Nat)) (rows : Rws) (s : D), rows.length = n ∧ n < 1000 ∧ 60 < sizeR rows ∧ Seq s (fms C rows) ∧ ds = [famD C n L, s] ∧ x = xW "things"
section
variable {P : Program} {w : World} {K : PySem.W.Frag} {mg : Str → Option Value} {base : Heap}
theorem sum_iD : ∀ (l : List Nat), (l.map fun (n : Nat) => (n : Int)).sum = ((l.sum : Nat) : Int)
  | [] => rfl
  | a :: l => by
    rw [List.map_cons, List.sum_cons, sum_iD l, List.sum_cons]
    omega

/-! Family.call -/
abbrev s_Family_call : Stmt := inClass (topS 34) 13
abbrev N_Family_call : List Str := ["self", "families", "parts", "size", "part", "starts", "shares", "e", "lot", "f"]
theorem sc_Family_call : FnScope N_Family_call ["self", "families"] (defScope s_Family_call) := ⟨rfl, rfl, rfl, by decide +kernel, rfl, by decide +kernel, by decide +kernel⟩
theorem ok_fcall {f C CN : Addr} {fd : FuncData} (F : Fun K "__call__" "Family.__call__" s_Family_call f fd) (T : Txt mg) (fc : FamC K mg C) (c_families_for : Cl P w K mg base 3 "families_for" (Pure K (p_ffor C))) (c_ask_thingsE : ClX P w K mg base 2 "ask_things" (PureE K p_ask_things (q_athings CN)))
    (c_starts_of : Cl P w K mg base 1 "starts_of" (Pure K (p_starts C))) (c_Family : ClI P w K mg base 5 C "Family" (InitP K C p_init)) (c_lots_put : Cl P w K mg base 1 "lots_put" (Pure K p_put)) :
    FnOk P w K mg base (L2.CX P w) 7 f fd ["self", "families"] (PureE K (p_fcall C) (q_fcall C CN)) := by
  refine pureE_ok F sc_Family_call (fun ds h => by
    rcases h with ⟨d, _, _, _, _, _, _, rfl, _⟩ | ⟨_, _, _, _, _, _, _, _, _, _, _, rfl, _⟩ <;> rfl) (by decide) fun cdv A outer s H E hr => ?_
  have tk : L2.Takes (cxOf (L2.CX P w) P w K mg base N_Family_call "Family.__call__" (defScope s_Family_call) f cdv A outer s H E) (fun cls d _ H => E cls d H) := takes_of rfl rfl rfl rfl
  have po : PassesOwn (model P w) (cxOf (L2.CX P w) P w K mg base N_Family_call "Family.__call__" (defScope s_Family_call) f cdv A outer s H E).A (cxOf (L2.CX P w) P w K mg base N_Family_call "Family.__call__" (defScope s_Family_call) f cdv A outer s H E).env (cxOf (L2.CX P w) P w K mg base N_Family_call "Family.__call__" (defScope s_Family_call) f cdv A outer s H E).xe := passes_of rfl
  refine ⟨_, (pss_cons (ps_set (i := 2) sc_Family_call.nd rfl (Or.inl rfl) (pe_cl c_families_for hr (by decide) (by rfl) (pa_cons (pv 0) (pa_cons (pv 1) pa_nil))))
    (pss_cons (ps_set (i := 3) sc_Family_call.nd rfl (Or.inl rfl) (pe_callB (r := rSum K) (cr_sum rfl) (by rfl) T.sum (by decide +kernel) (pa_cons (pe_lc (own := [("part", 4)]) (g := gName 4) rfl sc_Family_call.nd (pi_tup (pv 2)) (blkOk_by (N := N_Family_call) (sc := defScope s_Family_call) (by decide +kernel)) (fun _ _ _ _ _ => pg_name (i := 4) sc_Family_call.nd rfl (Or.inl rfl)) (fun _ _ _ _ _ => pts_nil) (fun _ _ _ _ _ => (pe_fldY (K := K) (pv 4) (by rfl) rfl))) pa_nil)))
    (pss_cons (ps_expr (pe_clX c_ask_thingsE hr (by decide) (by rfl) tk (pa_cons (pv 3) pa_nil)))
    (pss_cons (ps_set (i := 5) sc_Family_call.nd rfl (Or.inr rfl) (pe_cl c_starts_of hr (by decide) (by rfl) (pa_cons (pv 2) pa_nil)))
    (pss_cons (ps_set (i := 6) sc_Family_call.nd rfl (Or.inl rfl) (pe_lst pa_nil))
    (pss_cons (ps_for po rfl (pi_range1 (by rfl) T.range (pa_cons (pe_fld (pv 0) rfl) pa_nil)) (pg_name (i := 7) sc_Family_call.nd rfl (Or.inr rfl))
    (pss_one (ps_expr (pe_bm PySem.F.plainAttrs_list PySem.F.slot_list_append PySem.F.type_list_append mt_append (pv 6) (pa_cons (pe_lc (own := [("lot", 8)]) (g := gName 8) rfl sc_Family_call.nd (pi_tup (pe_fld (pe_ix (r := rIxT K) ix_tup (pv 2) (pv 7) (fun _ _ => rfl)) rfl)) (blkOk_by (N := N_Family_call) (sc := defScope s_Family_call) (by decide +kernel)) (fun _ _ _ _ _ => pg_name (i := 8) sc_Family_call.nd rfl (Or.inl rfl)) (fun _ _ _ _ _ => pts_nil)
      (fun _ _ _ _ _ => (pe_callTy (r := rTupOf K) call_tupY (by rfl) T.tuple (by decide +kernel) (pa_cons (pe_lc (own := [("f", 9)]) (g := gName 9) rfl sc_Family_call.nd (pi_tupY rfl (pv 8)) (blkOk_by (N := N_Family_call) (sc := relS (lcE (argE 0 (stE (at_ 0 (forB (at_ 5 (defBody s_Family_call))))))) (defScope s_Family_call)) (by decide +kernel)) (fun _ _ _ _ _ => pg_name (i := 9) sc_Family_call.nd rfl (Or.inl rfl)) (fun _ _ _ _ _ => pts_nil) (fun _ _ _ _ _ => (pe_op op_add (pv 9) (pe_ix (r := rIxT K) ix_tup (pv 5) (pv 7) (fun _ _ => rfl))))) pa_nil)))) pa_nil)))))
    (pss_one (ps_ret (pe_clI c_Family hr (by decide) (by rfl) (pa_cons (pv 3) (pa_cons (pe_cl c_lots_put hr (by decide) (by rfl) (pa_cons (pe_fld (pv 0) rfl) (pa_cons (pv 6) pa_nil))) pa_nil))))))))))), ?_, ?_⟩
  · rintro ds d ⟨n, L, rows, sq, hc, hs, rfl, rfl⟩ De o
    have hn3 := hc.n3
    refine sd_seq (sd_asg (d := .tup (fms C rows)) (ep_call (ea_cons (ep_var (i := 0) (d := famD C n L) rfl) (ea_cons (ep_var (i := 1) (d := sq) rfl) ea_nil)) ⟨n, L, rows, sq, hc.n3, hc.len, hs, rfl, rfl⟩) (fms_im C rows) (sd_go ?_))
    have eSum : EP K [] H (fun _ => True) (tCB (rSum K) (tCons (tLc (iTup K (tVar 2)) (gName 4) tYes (tFld K (tVar 4) "things") [4]) tNil)) ((entry N_Family_call [famD C n L, sq]).set 2 (.val (.tup (fms C rows)))) (iD (sizeR rows)) := by
      refine ep_is (ep_cb (ea_cons (EF.p (ef_is (ef_lcT1 (c := fun (r : Nat × List (List Nat)) => famD C r.1 r.2) (ts := rows) (fun r => iD r.1) (ep_var (i := 2) rfl) (fun _ _ => famD_im _ _ _) (by have := hc.len; omega) (fun r hr' => ep_fld (ep_var (i := 4) (d := famD C r.1 r.2) rfl) fc.ob.cl fc.nt rfl) (fun _ _ => rfl)) (m := ((rows.map (·.1)).map fun (n : Nat) => (n : Int)).map D.int) (by rw [List.map_map, List.map_map]; rfl))) ea_nil) rc_sum) ?_
      rw [sum_iD]
      rfl
    refine sd_seq (sd_asg (d := iD (sizeR rows)) eSum rfl (sd_go ?_))
    refine sd_seq (sd_drop (d := .non) (ep_callES (ea_cons (ep_var (i := 3) (d := iD (sizeR rows)) rfl) ea_nil) ⟨sizeR rows, hc.s1, hc.s2, rfl, rfl⟩) (sd_go ?_))
    refine sd_seq (sd_asg (d := tD (KM.starts (rows.map (·.1)))) (ep_call (ea_cons (ep_var (i := 2) (d := .tup (fms C rows)) rfl) ea_nil) ⟨rows, by have := hc.len; omega, rfl, rfl⟩) (tD_im _) (sd_go ?_))
    refine sd_seq (sd_asgO (ef_lst ea_nil) rfl fun p => sd_go ?_)
    let g : Nat → List (List Nat) := fun e => KM.up ((KM.starts (rows.map (·.1))).getD e 0) ((rows.getD e (0, [])).2)
    have hsh : KM.shares rows = (List.range n).map g := by unfold KM.shares; rw [hc.len]
    refine sd_seq (sd_forRP (n := (n : Int)) (fun _ => True) (ea_cons (ep_fld (ep_var (i := 0) (d := famD C n L) rfl) fc.ob.cl fc.nt rfl) ea_nil) (by omega) (fun i => [.val (famD C n L), .val sq, .val (.tup (fms C rows)), .val (iD (sizeR rows)), .no, .val (tD (KM.starts (rows.map (·.1)))), .own p (((List.range i).map g).map lsD), .no, .no, .no]) rfl trivial (fun i hi _ => ?_) (fun _ => sd_go ?_))
    · have hi' : i < rows.length := by have := hc.len; omega
      have hin := hc.inn rows[i] (List.getElem_mem hi')
      have hrg : rows.getD i (0, []) = rows[i] := by simp [List.getD, List.getElem?_eq_getElem hi']
      have hsl : i < (KM.starts (rows.map (·.1))).length := by rw [KM.starts_len, List.length_map]; exact hi'
      generalize hst : KM.starts (rows.map (·.1)) = st at hsl
      have hsg : st.getD i 0 = st[i] := by simp [List.getD, List.getElem?_eq_getElem hsl]
      have hg : g i = rows[i].2.map fun l => l.map fun f => f + st[i] := by
        simp only [g]
        rw [hrg, hst, hsg]
        rfl
      refine sd_appC (p := p) (i := 6) (l := ((List.range i).map g).map lsD) (d := lsD (g i)) rfl (ec_new (ef_is (ef_lcT1 (j := 8) (c := tD) (ts := rows[i].2) (fun l => tD (l.map fun f => f + st[i])) (ep_fld (ep_op (ep_var (i := 2) (d := .tup (fms C rows)) rfl) (ep_var (i := 7) (d := iD i) rfl) (r2_ixT (atI_nat (d := famD C rows[i].1 rows[i].2) ?_))) fc.ob.cl fc.nl rfl) (fun _ _ => tD_im _) (by have := hin.1; omega) (fun l hl => ?_) (fun _ _ => tD_im _)) ?_) (imAll_tD _)) (by rw [List.length_map, List.length_map, List.length_range]; omega) (sd_lp trivial ?_)
      · unfold fms
        rw [List.getElem?_map, List.getElem?_eq_getElem hi']
        rfl
      · refine ep_is (ep_cb (ea_cons (EF.p (ef_lcT1 (j := 9) (c := iD) (ts := l) (fun f => iD (f + st[i])) (ep_is (ep_var (i := 8) (d := tD l) rfl) (tD_eq l)) (fun _ _ => rfl) (by have := hin.2 l hl; omega) (fun f hf => ep_is (ep_op (ep_var (i := 9) (d := iD f) rfl) (ep_op (ep_is (ep_var (i := 5) (d := tD st) rfl) (tD_eq st)) (ep_var (i := 7) (d := iD i) rfl) (r2_ixT (atI_nat (d := iD st[i]) ?_))) r2_int) (by unfold iD; rw [Int.natCast_add])) (fun _ _ => rfl))) ea_nil) rc_tupleL) ?_
        · rw [List.getElem?_map, List.getElem?_eq_getElem hsl]
          rfl
        · rw [tD_eq, List.map_map]
          rfl
      · rw [hg, List.map_map]
        rfl
      · rw [List.range_succ, List.map_append, List.map_append]
        exact .eq (.eq (.eq (.eq (.no (.eq (.eq (.no (.eq (.eq .nil)))))))))
    · have hn0 : ((n : Int)).toNat = n := by omega
      rw [hn0, ← hsh]
      refine sd_ret (ep_make (ea_cons (ep_var (i := 3) (d := iD (sizeR rows)) rfl) (ea_cons (ep_call (d := tsD (KM.srt (KM.putL L (KM.shares rows)))) (ea_cons (ep_fld (ep_var (i := 0) (d := famD C n L) rfl) fc.ob.cl fc.nl rfl) (ea_cons (ep_own (i := 6) rfl) ea_nil)) ⟨L, KM.shares rows, hc.put, rfl, rfl⟩) ea_nil)) ⟨sizeR rows, _, _, hc.out, .inl rfl, rfl, rfl, rfl⟩) o.rt
  · rintro ds C' x ⟨rfl, n, L, rows, sq, hl, hn3, hbig, hs, rfl, rfl⟩ De o
    refine sd_seq (sd_asg (d := .tup (fms C rows)) (ep_call (ea_cons (ep_var (i := 0) (d := famD C n L) rfl) (ea_cons (ep_var (i := 1) (d := sq) rfl) ea_nil)) ⟨n, L, rows, sq, hn3, hl, hs, rfl, rfl⟩) (fms_im C rows) (sd_go ?_))
    have eSum : EP K [] H (fun _ => True) (tCB (rSum K) (tCons (tLc (iTup K (tVar 2)) (gName 4) tYes (tFld K (tVar 4) "things") [4]) tNil)) ((entry N_Family_call [famD C n L, sq]).set 2 (.val (.tup (fms C rows)))) (iD (sizeR rows)) := by
      refine ep_is (ep_cb (ea_cons (EF.p (ef_is (ef_lcT1 (c := fun (r : Nat × List (List Nat)) => famD C r.1 r.2) (ts := rows) (fun r => iD r.1) (ep_var (i := 2) rfl) (fun _ _ => famD_im _ _ _) (by omega) (fun r hr' => ep_fld (ep_var (i := 4) (d := famD C r.1 r.2) rfl) fc.ob.cl fc.nt rfl) (fun _ _ => rfl)) (m := ((rows.map (·.1)).map fun (n : Nat) => (n : Int)).map D.int) (by rw [List.map_map, List.map_map]; rfl))) ea_nil) rc_sum) ?_
      rw [sum_iD]
      rfl
    refine sd_seq (sd_asg (d := iD (sizeR rows)) eSum rfl (sd_go ?_))
    exact sd_seq (sd_dropR (er_callE (ea_cons (ep_var (i := 3) (d := iD (sizeR rows)) rfl) ea_nil) ⟨rfl, iD (sizeR rows), rfl, .inr ⟨_, rfl, hbig⟩, rfl, rfl⟩ (wf_of o)))
end
end Y
set_option autoImplicit false
set_option linter.all false
/-! Families put in: a lot within a set, by predicates. -/
namespace KM
/-- a lot within S -/
def HP (L : List T) (S : Nat → Prop) : Prop := ∃ l ∈ L, ∀ x ∈ l, S x
theorem hp_holds {L : List T} {s : T} : holds L s = true ↔ HP L (· ∈ s) := holds_iff
theorem hp_mem {L : List T} {S S' : Nat → Prop} (h : ∀ l ∈ L, ∀ x ∈ l, (S x ↔ S' x)) : HP L S ↔ HP L S' := by
  constructor <;> rintro ⟨l, hl, k⟩
  · exact ⟨l, hl, fun x hx => (h l hl x hx).mp (k x hx)⟩
  · exact ⟨l, hl, fun x hx => (h l hl x hx).mpr (k x hx)⟩
theorem gf_hp {n : Nat} {L M : List T} (g : GF n L) (h : GF n M) (e : ∀ S, HP L S ↔ HP M S) : L = M := gf_ext g h fun s _ _ => by
  rw [Bool.eq_iff_iff, hp_holds, hp_holds]
  exact e _
theorem hp_least {L : List T} {S : Nat → Prop} (ha : ∀ l ∈ L, Asc l) : HP (leastLots L) S ↔ HP L S := by
  rw [least_eq ha]
  constructor
  · rintro ⟨l, hl, h⟩
    exact ⟨l, (leastL_mem.mp hl).1, h⟩
  · rintro ⟨l, hl, h⟩
    obtain ⟨m, hm, h2⟩ := least_ex ha l.length l hl rfl
    exact ⟨m, hm, fun x hx => h x (h2 x hx)⟩
theorem hp_srt {L : List T} {S : Nat → Prop} : HP (srt L) S ↔ HP L S := by
  unfold HP
  simp only [srt_mem]
theorem hp_up {k : Nat} {L : List T} {S : Nat → Prop} : HP (up k L) S ↔ HP L fun f => S (f + k) := by
  constructor
  · rintro ⟨l, hl, h⟩
    obtain ⟨m, hm, rfl⟩ := mem_up.mp hl
    exact ⟨m, hm, fun x hx => h _ (List.mem_map.mpr ⟨x, hx, rfl⟩)⟩
  · rintro ⟨m, hm, h⟩
    refine ⟨_, mem_up.mpr ⟨m, hm, rfl⟩, fun x hx => ?_⟩
    obtain ⟨y, hy, rfl⟩ := List.mem_map.mp hx
    exact h y hy
theorem mem_putS {sh : List (List T)} {R : List T} {e : Nat} {m : T} : m ∈ putS sh R e ↔ ∃ r ∈ R, ∃ k ∈ sh.getD e [], m = r ++ k := by
  unfold putS
  rw [List.mem_flatMap]
  constructor
  · rintro ⟨r, hr, h⟩
    obtain ⟨k, hk, rfl⟩ := List.mem_map.mp h
    exact ⟨r, hr, k, hk, rfl⟩
  · rintro ⟨r, hr, k, hk, rfl⟩
    exact ⟨r, hr, List.mem_map.mpr ⟨k, hk, rfl⟩⟩
theorem hp_putS {sh : List (List T)} {R : List T} {e : Nat} {S : Nat → Prop} : HP (putS sh R e) S ↔ HP R S ∧ HP (sh.getD e []) S := by
  constructor
  · rintro ⟨m, hm, h⟩
    obtain ⟨r, hr, k, hk, rfl⟩ := mem_putS.mp hm
    exact ⟨⟨r, hr, fun x hx => h x (List.mem_append_left _ hx)⟩, k, hk, fun x hx => h x (List.mem_append_right _ hx)⟩
  · rintro ⟨⟨r, hr, h1⟩, k, hk, h2⟩
    refine ⟨r ++ k, mem_putS.mpr ⟨r, hr, k, hk, rfl⟩, fun x hx => ?_⟩
    rcases List.mem_append.mp hx with h | h
    · exact h1 x h
    · exact h2 x h
theorem hp_putR {sh : List (List T)} {S : Nat → Prop} : ∀ (lot : T) (R : List T), HP (lot.foldl (putS sh) R) S ↔ HP R S ∧ ∀ e ∈ lot, HP (sh.getD e []) S
  | [], R => by simp
  | e :: lot, R => by
    rw [List.foldl_cons, hp_putR lot, hp_putS, List.forall_mem_cons, and_assoc]
theorem hp_nil {S : Nat → Prop} : HP [[]] S := ⟨[], by simp, by simp⟩
theorem hp_putL {L : List T} {sh : List (List T)} {S : Nat → Prop} : HP (putL L sh) S ↔ HP L fun e => HP (sh.getD e []) S := by
  unfold putL
  constructor
  · rintro ⟨m, hm, h⟩
    obtain ⟨l, hl, hm⟩ := List.mem_flatMap.mp hm
    exact ⟨l, hl, ((hp_putR l [[]]).mp ⟨m, hm, h⟩).2⟩
  · rintro ⟨l, hl, h⟩
    obtain ⟨m, hm, k⟩ := (hp_putR l [[]]).mpr ⟨hp_nil, h⟩
    exact ⟨m, List.mem_flatMap.mpr ⟨l, hl, hm⟩, k⟩
/-! where each begins -/
def stt (rows : List Rw) (e : Nat) : Nat := ((rows.take e).map (·.1)).sum
def siz (rows : List Rw) : Nat := (rows.map (·.1)).sum
def rw_ (rows : List Rw) (e : Nat) : Rw := rows.getD e (0, [])
theorem starts_at : ∀ (ns : List Nat) (s e : Nat), e < ns.length → (ns.foldl startsS ([], s)).1.getD e 0 = s + (ns.take e).sum
  | [], s, e, h => by simp at h
  | n :: ns, s, e, h => by
    rw [List.foldl_cons]
    show (List.foldl startsS ([] ++ [s], s + n) ns).1.getD e 0 = _
    rw [starts_acc]
    cases e with
    | zero => simp
    | succ e =>
      have h' : e < ns.length := by simpa using h
      have ih := starts_at ns (s + n) e h'
      simp only [List.nil_append, List.singleton_append, List.getD_cons_succ, List.take_succ_cons, List.sum_cons]
      rw [ih]
      omega
theorem starts_get {ns : List Nat} {e : Nat} (h : e < ns.length) : (starts ns).getD e 0 = (ns.take e).sum := by
  have := starts_at ns 0 e h
  simpa [starts] using this
theorem stt_get {rows : List Rw} {e : Nat} (h : e < rows.length) : (starts (rows.map (·.1))).getD e 0 = stt rows e := by
  rw [starts_get (by simpa using h)]
  unfold stt
  rw [List.map_take]
theorem rw_get {rows : List Rw} {e : Nat} (h : e < rows.length) : rw_ rows e = rows[e] := by simp [rw_, List.getD, List.getElem?_eq_getElem h]
theorem rw_mem {rows : List Rw} {e : Nat} (h : e < rows.length) : rw_ rows e ∈ rows := by rw [rw_get h]; exact List.getElem_mem h
theorem stt_succ {rows : List Rw} {e : Nat} (h : e < rows.length) : stt rows (e + 1) = stt rows e + (rw_ rows e).1 := by
  unfold stt
  rw [rw_get h, List.take_add_one, List.getElem?_eq_getElem h]
  simp only [List.map_append, List.sum_append, Option.toList_some, List.map_cons, List.map_nil, List.sum_cons, List.sum_nil, Nat.add_zero]
theorem stt_all (rows : List Rw) : stt rows rows.length = siz rows := by unfold stt siz; rw [List.take_length]
theorem stt_mono {rows : List Rw} {a b : Nat} (h : a ≤ b) : stt rows a ≤ stt rows b := by
  unfold stt
  have e : (rows.take b).map (·.1) = (rows.take a).map (·.1) ++ ((rows.take b).drop a).map (·.1) := by
    rw [← List.map_append]
    congr 1
    have := (List.take_append_drop a (rows.take b)).symm
    rw [List.take_take, Nat.min_eq_left h] at this
    exact this
  rw [e, List.sum_append]
  omega
theorem stt_le {rows : List Rw} {e : Nat} (h : e ≤ rows.length) : stt rows e ≤ siz rows := by rw [← stt_all]; exact stt_mono h
theorem stt_end {rows : List Rw} {e : Nat} (h : e < rows.length) : stt rows e + (rw_ rows e).1 ≤ siz rows := by rw [← stt_succ h]; exact stt_le h
/-- blocks do not meet -/
theorem blk_one {rows : List Rw} {e e' x : Nat} (h : e < rows.length) (h' : e' < rows.length) (a : stt rows e ≤ x) (b : x < stt rows e + (rw_ rows e).1) (a' : stt rows e' ≤ x) (b' : x < stt rows e' + (rw_ rows e').1) : e = e' := by
  rw [← stt_succ h] at b
  rw [← stt_succ h'] at b'
  rcases Nat.lt_trichotomy e e' with z | z | z
  · have := stt_mono (rows := rows) (show e + 1 ≤ e' from z); omega
  · exact z
  · have := stt_mono (rows := rows) (show e' + 1 ≤ e from z); omega
theorem shares_get {rows : List Rw} {e : Nat} (h : e < rows.length) : (shares rows).getD e [] = up (stt rows e) (rw_ rows e).2 := by
  unfold shares
  rw [List.getD, List.getElem?_map, List.getElem?_range h]
  simp only [Option.map_some, Option.getD_some]
  rw [stt_get h]
  rfl
theorem shares_len (rows : List Rw) : (shares rows).length = rows.length := by unfold shares; rw [List.length_map, List.length_range]
/-- a lot of a family put in -/
def put (L : List T) (rows : List Rw) : List T := srt (putL L (shares rows))
/-- families that may be put in -/
structure Pin (n : Nat) (L : List T) (rows : List Rw) : Prop where
  g : GF n L
  len : rows.length = n
  r : ∀ r ∈ rows, GF r.1 r.2
theorem Pin.lt {n : Nat} {L : List T} {rows : List Rw} (h : Pin n L rows) {l : T} (hl : l ∈ L) {e : Nat} (he : e ∈ l) : e < rows.length := by rw [h.len]; exact h.g.lt l hl e he
theorem Pin.gf {n : Nat} {L : List T} {rows : List Rw} (h : Pin n L rows) {e : Nat} (he : e < rows.length) : GF (rw_ rows e).1 (rw_ rows e).2 := h.r _ (rw_mem he)
theorem hp_put {n : Nat} {L : List T} {rows : List Rw} (h : Pin n L rows) {S : Nat → Prop} : HP (put L rows) S ↔ HP L fun e => HP (rw_ rows e).2 fun f => S (f + stt rows e) := by
  unfold put
  rw [hp_srt, hp_putL]
  refine hp_mem fun l hl e he => ?_
  rw [shares_get (h.lt hl he), hp_up]
theorem mem_putR {sh : List (List T)} {x : Nat} : ∀ (lot : T) (R : List T) (m : T), m ∈ lot.foldl (putS sh) R → x ∈ m → (∃ r ∈ R, x ∈ r) ∨ ∃ e ∈ lot, ∃ k ∈ sh.getD e [], x ∈ k
  | [], R, m, hm, hx => .inl ⟨m, hm, hx⟩
  | e :: lot, R, m, hm, hx => by
    rw [List.foldl_cons] at hm
    rcases mem_putR lot _ m hm hx with ⟨r, hr, hx⟩ | ⟨e', he', k, hk, hx⟩
    · obtain ⟨r', hr', k, hk, rfl⟩ := mem_putS.mp hr
      rcases List.mem_append.mp hx with z | z
      · exact .inl ⟨r', hr', z⟩
      · exact .inr ⟨e, by simp, k, hk, z⟩
    · exact .inr ⟨e', List.mem_cons_of_mem _ he', k, hk, hx⟩
theorem An.wide {s e e' : Nat} {X : List T} (a : An s e X) (h : e ≤ e') : An s e' X := ⟨a.nd, a.asc, a.ge, fun l hl x hx => Nat.lt_of_lt_of_le (a.lt l hl x hx) h, a.an⟩
theorem putR_an {rows : List Rw} (hr : ∀ r ∈ rows, GF r.1 r.2) : ∀ (lot : T) (R : List T) (b : Nat), Asc lot → (∀ e ∈ lot, e < rows.length) → An 0 b R → (∀ e ∈ lot, b ≤ stt rows e) → b ≤ siz rows → An 0 (siz rows) (lot.foldl (putS (shares rows)) R)
  | [], R, b, _, _, a, _, hb => a.wide hb
  | e :: lot, R, b, ha, hl, a, hb, _ => by
    have he := hl e (by simp)
    have ha' := List.pairwise_cons.mp ha
    rw [List.foldl_cons]
    refine putR_an hr lot _ (stt rows (e + 1)) ha'.2 (fun e' h' => hl e' (List.mem_cons_of_mem _ h')) ?_ (fun e' h' => stt_mono (ha'.1 e' h')) (stt_le he)
    unfold putS
    rw [shares_get he, stt_succ he]
    exact prod_an (a.wide (hb e (by simp))) (up_an (hr _ (rw_mem he))).1 (Nat.zero_le _) (Nat.le_add_right _ _)
theorem an_nil (b : Nat) : An 0 b [[]] := ⟨by simp, fun l hl => by simp at hl; subst hl; exact List.Pairwise.nil, fun l hl x hx => by simp at hl; subst hl; simp at hx, fun l hl x hx => by simp at hl; subst hl; simp at hx, fun l hl m hm _ => by simp at hl hm; rw [hl, hm]⟩
theorem Pin.ran {n : Nat} {L : List T} {rows : List Rw} (h : Pin n L rows) {l : T} (hl : l ∈ L) : An 0 (siz rows) (putR (shares rows) l) :=
  putR_an h.r l [[]] 0 (h.g.g.asc l hl) (fun e he => h.lt hl he) (an_nil 0) (fun _ _ => Nat.zero_le _) (Nat.zero_le _)
theorem Pin.lots {n : Nat} {L : List T} {rows : List Rw} (h : Pin n L rows) {l l' m m' : T} (hl : l ∈ L) (hl' : l' ∈ L) (hm : m ∈ putR (shares rows) l) (hm' : m' ∈ putR (shares rows) l') (s : ∀ x ∈ m, x ∈ m') : l = l' := by
  refine h.g.g.anti l hl l' hl' fun e he => ?_
  have he1 := h.lt hl he
  obtain ⟨k, hk, hx⟩ := ((hp_putR (sh := shares rows) (S := (· ∈ m')) l [[]]).mp ⟨m, hm, s⟩).2 e he
  rw [shares_get he1] at hk
  obtain ⟨k1, hk1, rfl⟩ := mem_up.mp hk
  have g := h.gf he1
  obtain ⟨y, r, rfl⟩ := List.exists_cons_of_ne_nil (g.lne k1 hk1)
  have hy := hx (y + stt rows e) (by simp)
  rcases mem_putR l' [[]] m' hm' hy with ⟨r, hr, z⟩ | ⟨e', he', k', hk', z⟩
  · simp at hr; subst hr; simp at z
  · have he2 := h.lt hl' he'
    rw [shares_get he2] at hk'
    obtain ⟨k2, hk2, rfl⟩ := mem_up.mp hk'
    obtain ⟨y2, hy2, e2⟩ := List.mem_map.mp z
    have g2 := h.gf he2
    have b1 := g.lt _ hk1 y (by simp)
    have b2 := g2.lt k2 hk2 y2 hy2
    have := blk_one (x := y + stt rows e) he1 he2 (by omega) (by omega) (by omega) (by omega)
    rw [this]; exact he'
theorem Pin.an {n : Nat} {L : List T} {rows : List Rw} (h : Pin n L rows) : An 0 (siz rows) (putL L (shares rows)) := by
  unfold putL
  refine ⟨List.pairwise_flatMap.mpr ⟨fun l hl => (h.ran hl).nd, ?_⟩, fun m hm => ?_, fun m hm x hx => Nat.zero_le _, fun m hm => ?_, fun m hm m' hm' s => ?_⟩
  · refine List.Pairwise.imp_of_mem (fun {l l'} hl hl' hne => ?_) (nodup_of_lt h.g.g.lt)
    intro m hm m' hm' e
    subst e
    exact hne (h.lots hl hl' hm hm' fun _ z => z)
  · obtain ⟨l, hl, hm⟩ := List.mem_flatMap.mp hm
    exact (h.ran hl).asc m hm
  · obtain ⟨l, hl, hm⟩ := List.mem_flatMap.mp hm
    exact (h.ran hl).lt m hm
  · obtain ⟨l, hl, hm⟩ := List.mem_flatMap.mp hm
    obtain ⟨l', hl', hm'⟩ := List.mem_flatMap.mp hm'
    have := h.lots hl hl' hm hm' s
    subst this
    exact (h.ran hl).an m hm m' hm' s
theorem Pin.pne {n : Nat} {L : List T} {rows : List Rw} (h : Pin n L rows) : putL L (shares rows) ≠ [] ∧ ∀ l ∈ putL L (shares rows), l ≠ [] := by
  constructor
  · intro z
    have : HP (put L rows) fun _ => True := by
      rw [hp_put h]
      obtain ⟨l, r, e⟩ := List.exists_cons_of_ne_nil h.g.ne
      refine ⟨l, by rw [e]; simp, fun x hx => ?_⟩
      have g := h.gf (h.lt (l := l) (by rw [e]; simp) hx)
      obtain ⟨m, r', e'⟩ := List.exists_cons_of_ne_nil g.ne
      exact ⟨m, by rw [e']; simp, fun _ _ => trivial⟩
    obtain ⟨m, hm, _⟩ := this
    unfold put at hm
    rw [srt_mem, z] at hm
    simp at hm
  · intro m hm z
    have : HP (put L rows) fun _ => False := ⟨m, srt_mem.mpr hm, fun x hx => by rw [z] at hx; simp at hx⟩
    rw [hp_put h] at this
    obtain ⟨l, hl, k⟩ := this
    obtain ⟨e, r, el⟩ := List.exists_cons_of_ne_nil (h.g.lne l hl)
    have he : e ∈ l := by rw [el]; simp
    obtain ⟨k1, hk1, k2⟩ := k e he
    obtain ⟨y, r', ey⟩ := List.exists_cons_of_ne_nil ((h.gf (h.lt hl he)).lne k1 hk1)
    exact k2 y (by rw [ey]; simp)
theorem Pin.s1 {n : Nat} {L : List T} {rows : List Rw} (h : Pin n L rows) : 1 ≤ siz rows := by
  have n1 := h.g.n1
  have h0 : 0 < rows.length := by rw [h.len]; omega
  have := stt_end (rows := rows) h0
  have := (h.gf h0).n1
  omega
theorem put_gf {n : Nat} {L : List T} {rows : List Rw} (h : Pin n L rows) : GF (siz rows) (put L rows) := an_gf h.an h.s1 h.pne.1 h.pne.2
/-! the blocker -/
theorem hp_blk {n : Nat} {L : List T} (g : GF n L) {S : Nat → Prop} : HP (blockerLots L) S ↔ ¬ HP L fun x => ¬ S x := by
  classical
  have g' := blocker_gf g
  let s := (List.range n).filter fun x => decide (S x)
  have hs : ∀ x ∈ s, x < n := fun x hx => List.mem_range.mp (List.mem_filter.mp hx).1
  have e1 : HP (blockerLots L) S ↔ HP (blockerLots L) (· ∈ s) := hp_mem fun l hl x hx => by
    have := g'.lt l hl x hx
    simp [s, this]
  have e2 : (HP L fun x => ¬ S x) ↔ HP L (· ∈ rest n s) := hp_mem fun l hl x hx => by
    have := g.lt l hl x hx
    rw [mem_rest]
    simp [s, this]
  rw [e1, e2, ← hp_holds, ← hp_holds, blk_holds g hs]
  simp
def blkR (rows : List Rw) : List Rw := rows.map fun r => (r.1, blockerLots r.2)
theorem siz_blk (rows : List Rw) : siz (blkR rows) = siz rows := by unfold siz blkR; rw [List.map_map]; rfl
theorem stt_blk (rows : List Rw) (e : Nat) : stt (blkR rows) e = stt rows e := by unfold stt blkR; rw [← List.map_take, List.map_map]; rfl
theorem rw_blk {rows : List Rw} {e : Nat} (h : e < rows.length) : rw_ (blkR rows) e = ((rw_ rows e).1, blockerLots (rw_ rows e).2) := by
  rw [rw_get h, rw_get (by unfold blkR; simpa using h)]
  unfold blkR
  rw [List.getElem_map]
theorem Pin.blk {n : Nat} {L : List T} {rows : List Rw} (h : Pin n L rows) : Pin n (blockerLots L) (blkR rows) := ⟨blocker_gf h.g, by unfold blkR; rw [List.length_map]; exact h.len, fun r hr => by
  obtain ⟨q, hq, rfl⟩ := List.mem_map.mp hr
  exact blocker_gf (h.r q hq)⟩
theorem put_blk {n : Nat} {L : List T} {rows : List Rw} (h : Pin n L rows) : blockerLots (put L rows) = put (blockerLots L) (blkR rows) := by
  have g1 := blocker_gf (put_gf h)
  have g2 := put_gf h.blk
  rw [siz_blk] at g2
  refine gf_hp g1 g2 fun S => ?_
  rw [hp_blk (put_gf h), hp_put h, hp_put h.blk, hp_blk h.g]
  refine not_congr (hp_mem fun l hl e he => ?_)
  have he' := h.lt hl he
  rw [rw_blk he', hp_blk (h.gf he'), Classical.not_not, stt_blk]
/-! left out, held -/
def leftL (t : Nat) (L : List T) : List T := L.filter fun l => maskOf l &&& maskOf [t] == 0
def heldL (t : Nat) (L : List T) : List T := lotsOfMasks (leastMasks (L.map fun l => (maskOf l ||| maskOf [t]) ^^^ maskOf [t]))
theorem asc_one (t : Nat) : Asc [t] := List.pairwise_singleton _ _
theorem left_mem {t : Nat} {L : List T} (ha : ∀ l ∈ L, Asc l) {l : T} : l ∈ leftL t L ↔ l ∈ L ∧ t ∉ l := by
  unfold leftL
  rw [List.mem_filter]
  refine and_congr_right fun hl => ?_
  rw [beq_iff_eq, and_zero_iff]
  constructor
  · intro h z
    have := h t ((mask_bit_iff (ha l hl)).mpr z)
    rw [mask_bit (asc_one t)] at this
    simp at this
  · intro h i hi
    rw [mask_bit (asc_one t)]
    have := (mask_bit_iff (ha l hl)).mp hi
    simp
    rintro rfl
    exact h this
theorem hp_left {t : Nat} {L : List T} (ha : ∀ l ∈ L, Asc l) {S : Nat → Prop} : HP (leftL t L) S ↔ HP L fun x => S x ∧ x ≠ t := by
  constructor
  · rintro ⟨l, hl, h⟩
    obtain ⟨h1, h2⟩ := (left_mem ha).mp hl
    exact ⟨l, h1, fun x hx => ⟨h x hx, fun z => h2 (z ▸ hx)⟩⟩
  · rintro ⟨l, hl, h⟩
    exact ⟨l, (left_mem ha).mpr ⟨hl, fun z => (h t z).2 rfl⟩, fun x hx => (h x hx).1⟩
theorem left_nil {t : Nat} {L : List T} (ha : ∀ l ∈ L, Asc l) : leftL t L = [] ↔ ¬ HP L fun x => x ≠ t := by
  have : (HP L fun x => x ≠ t) ↔ HP (leftL t L) fun _ => True := by rw [hp_left ha]; exact hp_mem fun _ _ _ _ => by simp
  rw [this]
  constructor
  · intro e
    rw [e]
    rintro ⟨_, h, _⟩
    simp at h
  · intro h
    refine List.eq_nil_iff_forall_not_mem.mpr fun l hl => h ⟨l, hl, fun _ _ => trivial⟩
theorem left_gf {n t : Nat} {L : List T} (g : GF n L) (ne : leftL t L ≠ []) : GF n (leftL t L) := g.sub List.filter_sublist ne
theorem held_mask {l : T} (a : Asc l) (t : Nat) : (maskOf l ||| maskOf [t]) ^^^ maskOf [t] = maskOf (l.filter fun x => decide (x ≠ t)) := by
  refine Nat.eq_of_testBit_eq fun i => ?_
  rw [Nat.testBit_xor, Nat.testBit_or, mask_bit a, mask_bit (asc_one t), mask_bit (a.filter _)]
  by_cases h : i ∈ l <;> by_cases h2 : i = t <;> simp [h, h2]
theorem held_eq {t : Nat} {L : List T} (ha : ∀ l ∈ L, Asc l) : heldL t L = leastLots (L.map fun l => l.filter fun x => decide (x ≠ t)) := by
  unfold heldL leastLots
  rw [List.map_map]
  congr 2
  exact List.map_congr_left fun l hl => held_mask (ha l hl) t
theorem held_asc {t : Nat} {L : List T} (ha : ∀ l ∈ L, Asc l) : ∀ l ∈ (L.map fun l => l.filter fun x => decide (x ≠ t)), Asc l := fun l hl => by
  obtain ⟨m, hm, rfl⟩ := List.mem_map.mp hl
  exact (ha m hm).filter _
theorem hp_held {t : Nat} {L : List T} (ha : ∀ l ∈ L, Asc l) {S : Nat → Prop} : HP (heldL t L) S ↔ HP L fun x => S x ∨ x = t := by
  rw [held_eq ha, hp_least (held_asc ha)]
  constructor
  · rintro ⟨l, hl, h⟩
    obtain ⟨m, hm, rfl⟩ := List.mem_map.mp hl
    refine ⟨m, hm, fun x hx => ?_⟩
    by_cases z : x = t
    · exact .inr z
    · exact .inl (h x (List.mem_filter.mpr ⟨hx, by simpa using z⟩))
  · rintro ⟨m, hm, h⟩
    refine ⟨_, List.mem_map.mpr ⟨m, hm, rfl⟩, fun x hx => ?_⟩
    obtain ⟨h1, h2⟩ := List.mem_filter.mp hx
    exact (h x h1).resolve_right (by simpa using h2)
theorem one_hp {n t : Nat} {L : List T} (g : GF n L) : [t] ∈ L ↔ HP L fun x => x = t := by
  constructor
  · intro h
    exact ⟨[t], h, by simp⟩
  · rintro ⟨l, hl, h⟩
    have a := g.g.asc l hl
    obtain ⟨y, r, rfl⟩ := List.exists_cons_of_ne_nil (g.lne l hl)
    have e := h y (by simp)
    subst e
    cases r with
    | nil => exact hl
    | cons z r =>
      have := h z (by simp)
      have := (List.pairwise_cons.mp a).1 z (by simp)
      omega
theorem held_gf {n t : Nat} {L : List T} (g : GF n L) (h : [t] ∉ L) : GF n (heldL t L) := by
  rw [held_eq g.g.asc]
  refine leastLots_gf g.n1 (by simpa using g.ne) (held_asc g.g.asc) (fun l hl z => ?_) (fun l hl x hx => ?_)
  · obtain ⟨m, hm, rfl⟩ := List.mem_map.mp hl
    refine h ((one_hp g).mpr ⟨m, hm, fun x hx => ?_⟩)
    have := List.filter_eq_nil_iff.mp z x hx
    simpa using this
  · obtain ⟨m, hm, rfl⟩ := List.mem_map.mp hl
    exact g.lt m hm x (List.mem_filter.mp hx).1
end KM
set_option autoImplicit false
set_option linter.all false
/-! Families put in: one thing less; put in twice. -/
namespace KM
theorem hp_true {n : Nat} {L : List T} (g : GF n L) : HP L fun _ => True := by
  obtain ⟨m, r, e⟩ := List.exists_cons_of_ne_nil g.ne
  exact ⟨m, by rw [e]; simp, fun _ _ => trivial⟩
theorem not_hp_false {n : Nat} {L : List T} (g : GF n L) : ¬ HP L fun _ => False := by
  rintro ⟨l, hl, k⟩
  obtain ⟨e, r, el⟩ := List.exists_cons_of_ne_nil (g.lne l hl)
  exact k e (by rw [el]; simp)
theorem hp_ne {L : List T} {S : Nat → Prop} (h : HP L S) : L ≠ [] := by
  rintro rfl
  obtain ⟨_, z, _⟩ := h
  simp at z
/-! one family changed for another on as many things -/
section
variable {n e : Nat} {L : List T} {rows : List Rw} {r : Rw}
theorem set_len : (rows.set e r).length = rows.length := List.length_set
theorem set_fst (he : e < rows.length) (h : r.1 = (rw_ rows e).1) : (rows.set e r).map (·.1) = rows.map (·.1) := by
  refine List.ext_getElem (by simp) fun i h1 h2 => ?_
  rw [List.getElem_map, List.getElem_map, List.getElem_set]
  split
  · rename_i z
    subst z
    rw [h, rw_get he]
  · rfl
theorem set_stt (he : e < rows.length) (h : r.1 = (rw_ rows e).1) (i : Nat) : stt (rows.set e r) i = stt rows i := by
  unfold stt
  rw [List.map_take, List.map_take, set_fst he h]
theorem set_siz (he : e < rows.length) (h : r.1 = (rw_ rows e).1) : siz (rows.set e r) = siz rows := by
  unfold siz
  rw [set_fst he h]
theorem set_rw {i : Nat} (hi : i < rows.length) : rw_ (rows.set e r) i = if e = i then r else rw_ rows i := by
  rw [rw_get (by rw [set_len]; exact hi), List.getElem_set]
  split
  · rfl
  · rw [rw_get hi]
theorem Pin.set (h : Pin n L rows) (g : GF r.1 r.2) : Pin n L (rows.set e r) := ⟨h.g, by rw [set_len]; exact h.len, fun q hq => by
  rcases List.mem_or_eq_of_mem_set hq with z | z
  · exact h.r q z
  · rw [z]; exact g⟩
end
section
variable {n e a : Nat} {L : List T} {rows : List Rw}
/-- the place of a thing of the e-th family -/
theorem at_same {f : Nat} : f + stt rows e = stt rows e + a ↔ f = a := by omega
theorem at_other (h : Pin n L rows) (he : e < rows.length) (ha : a < (rw_ rows e).1) {i f : Nat} (hi : i < rows.length) (hf : f < (rw_ rows i).1) (ne : i ≠ e) : f + stt rows i ≠ stt rows e + a := fun z => by
  exact ne (blk_one (x := stt rows e + a) hi he (by omega) (by omega) (by omega) (by omega))
theorem stt_lt (he : e < rows.length) (ha : a < (rw_ rows e).1) : stt rows e + a < siz rows := by
  have := stt_end he
  omega
/-! left out -/
theorem left_one (h : Pin n L rows) (he : e < rows.length) (ha : a < (rw_ rows e).1) {S : Nat → Prop} :
    HP (leftL (stt rows e + a) (put L rows)) S ↔ HP L fun i => if i = e then HP (leftL a (rw_ rows e).2) (fun f => S (f + stt rows e)) else HP (rw_ rows i).2 fun f => S (f + stt rows i) := by
  rw [hp_left (put_gf h).g.asc, hp_put h]
  refine hp_mem fun l hl i hi => ?_
  have hi' := h.lt hl hi
  by_cases z : i = e
  · subst z
    rw [if_pos rfl, hp_left (h.gf hi').g.asc]
    exact hp_mem fun m hm f hf => by rw [ne_eq, ne_eq, at_same]
  · rw [if_neg z]
    refine hp_mem fun m hm f hf => ?_
    have := at_other h he ha hi' ((h.gf hi').lt m hm f hf) z
    simp [this]
theorem left_in (h : Pin n L rows) (he : e < rows.length) (ha : a < (rw_ rows e).1) (ne : leftL a (rw_ rows e).2 ≠ []) :
    leftL (stt rows e + a) (put L rows) ≠ [] ∧ leftL (stt rows e + a) (put L rows) = put L (rows.set e ((rw_ rows e).1, leftL a (rw_ rows e).2)) := by
  have p : Pin n L (rows.set e ((rw_ rows e).1, leftL a (rw_ rows e).2)) := h.set (left_gf (h.gf he) ne)
  have eq : ∀ S, HP (leftL (stt rows e + a) (put L rows)) S ↔ HP (put L (rows.set e ((rw_ rows e).1, leftL a (rw_ rows e).2))) S := fun S => by
    rw [left_one h he ha, hp_put p]
    refine hp_mem fun l hl i hi => ?_
    have hi' := h.lt hl hi
    rw [set_rw hi', set_stt (r := ((rw_ rows e).1, leftL a (rw_ rows e).2)) he rfl]
    by_cases z : i = e
    · subst z
      rw [if_pos rfl, if_pos rfl]
    · rw [if_neg z, if_neg (Ne.symm z)]
  have g2 := put_gf p
  rw [set_siz (r := ((rw_ rows e).1, leftL a (rw_ rows e).2)) he rfl] at g2
  have ne2 := hp_ne ((eq _).mpr (hp_true g2))
  exact ⟨ne2, gf_hp (left_gf (put_gf h) ne2) g2 eq⟩
theorem left_out (h : Pin n L rows) (he : e < rows.length) (ha : a < (rw_ rows e).1) (nil : leftL a (rw_ rows e).2 = []) :
    (leftL e L = [] → leftL (stt rows e + a) (put L rows) = []) ∧ (leftL e L ≠ [] → leftL (stt rows e + a) (put L rows) ≠ [] ∧ leftL (stt rows e + a) (put L rows) = put (leftL e L) rows) := by
  have eq : ∀ S, HP (leftL (stt rows e + a) (put L rows)) S ↔ HP (leftL e L) fun i => HP (rw_ rows i).2 fun f => S (f + stt rows i) := fun S => by
    rw [left_one h he ha, hp_left h.g.g.asc]
    refine hp_mem fun l hl i hi => ?_
    by_cases z : i = e
    · rw [if_pos z, nil]
      constructor
      · intro w
        exact absurd rfl (hp_ne w)
      · intro w
        exact absurd z w.2
    · rw [if_neg z]
      simp [z]
  refine ⟨fun w => ?_, fun w => ?_⟩
  · refine (List.eq_nil_iff_forall_not_mem.mpr fun l hl => ?_)
    have := (eq fun _ => True).mp ⟨l, hl, fun _ _ => trivial⟩
    rw [w] at this
    exact hp_ne this rfl
  · have p : Pin n (leftL e L) rows := ⟨left_gf h.g w, h.len, h.r⟩
    have eq2 : ∀ S, HP (leftL (stt rows e + a) (put L rows)) S ↔ HP (put (leftL e L) rows) S := fun S => by rw [eq, hp_put p]
    have ne2 := hp_ne ((eq2 _).mpr (hp_true (put_gf p)))
    exact ⟨ne2, gf_hp (left_gf (put_gf h) ne2) (put_gf p) eq2⟩
/-! held -/
theorem held_one (h : Pin n L rows) (he : e < rows.length) (ha : a < (rw_ rows e).1) {S : Nat → Prop} :
    (HP (put L rows) fun x => S x ∨ x = stt rows e + a) ↔ HP L fun i => if i = e then HP (heldL a (rw_ rows e).2) (fun f => S (f + stt rows e)) else HP (rw_ rows i).2 fun f => S (f + stt rows i) := by
  rw [hp_put h]
  refine hp_mem fun l hl i hi => ?_
  have hi' := h.lt hl hi
  by_cases z : i = e
  · subst z
    rw [if_pos rfl, hp_held (h.gf hi').g.asc]
    exact hp_mem fun m hm f hf => by rw [at_same]
  · rw [if_neg z]
    refine hp_mem fun m hm f hf => ?_
    have := at_other h he ha hi' ((h.gf hi').lt m hm f hf) z
    simp [this]
theorem held_lost (h : Pin n L rows) (he : e < rows.length) (ha : a < (rw_ rows e).1) : [stt rows e + a] ∈ put L rows ↔ [a] ∈ (rw_ rows e).2 ∧ [e] ∈ L := by
  have e1 : (HP (put L rows) fun x => x = stt rows e + a) ↔ HP L fun i => i = e ∧ [a] ∈ (rw_ rows e).2 := by
    have := held_one h he ha (S := fun _ => False)
    simp only [false_or] at this
    rw [this]
    refine hp_mem fun l hl i hi => ?_
    have hi' := h.lt hl hi
    by_cases z : i = e
    · subst z
      rw [if_pos rfl, hp_held (h.gf hi').g.asc, one_hp (h.gf hi')]
      simp
    · rw [if_neg z]
      constructor
      · intro w
        exact absurd w (not_hp_false (h.gf hi'))
      · intro w
        exact absurd w.1 z
  rw [one_hp (put_gf h), e1, one_hp h.g]
  constructor
  · rintro ⟨l, hl, k⟩
    obtain ⟨y, r, rfl⟩ := List.exists_cons_of_ne_nil (h.g.lne l hl)
    exact ⟨(k y (by simp)).2, _, hl, fun x hx => (k x hx).1⟩
  · rintro ⟨w, l, hl, k⟩
    exact ⟨l, hl, fun x hx => ⟨k x hx, w⟩⟩
theorem held_in (h : Pin n L rows) (he : e < rows.length) (ha : a < (rw_ rows e).1) (ne : [a] ∉ (rw_ rows e).2) :
    [stt rows e + a] ∉ put L rows ∧ heldL (stt rows e + a) (put L rows) = put L (rows.set e ((rw_ rows e).1, heldL a (rw_ rows e).2)) := by
  have p : Pin n L (rows.set e ((rw_ rows e).1, heldL a (rw_ rows e).2)) := h.set (held_gf (h.gf he) ne)
  have ne2 : [stt rows e + a] ∉ put L rows := fun z => ne ((held_lost h he ha).mp z).1
  have g2 := put_gf p
  rw [set_siz (r := ((rw_ rows e).1, heldL a (rw_ rows e).2)) he rfl] at g2
  refine ⟨ne2, gf_hp (held_gf (put_gf h) ne2) g2 fun S => ?_⟩
  rw [hp_held (put_gf h).g.asc, held_one h he ha, hp_put p]
  refine hp_mem fun l hl i hi => ?_
  have hi' := h.lt hl hi
  rw [set_rw hi', set_stt (r := ((rw_ rows e).1, heldL a (rw_ rows e).2)) he rfl]
  by_cases z : i = e
  · subst z
    rw [if_pos rfl, if_pos rfl]
  · rw [if_neg z, if_neg (Ne.symm z)]
theorem held_out (h : Pin n L rows) (he : e < rows.length) (ha : a < (rw_ rows e).1) (one : [a] ∈ (rw_ rows e).2) (ne : [e] ∉ L) :
    [stt rows e + a] ∉ put L rows ∧ heldL (stt rows e + a) (put L rows) = put (heldL e L) rows := by
  have p : Pin n (heldL e L) rows := ⟨held_gf h.g ne, h.len, h.r⟩
  have ne2 : [stt rows e + a] ∉ put L rows := fun z => ne ((held_lost h he ha).mp z).2
  refine ⟨ne2, gf_hp (held_gf (put_gf h) ne2) (put_gf p) fun S => ?_⟩
  rw [hp_held (put_gf h).g.asc, held_one h he ha, hp_put p, hp_held h.g.g.asc]
  refine hp_mem fun l hl i hi => ?_
  by_cases z : i = e
  · subst z
    rw [if_pos rfl, hp_held (h.gf he).g.asc]
    refine ⟨fun _ => .inr rfl, fun _ => ⟨[a], one, fun x hx => .inr (by simpa using hx)⟩⟩
  · rw [if_neg z]
    simp [z]
end
/-! twice -/
def slc (ag rows : List Rw) (e : Nat) : List Rw := (ag.drop (stt rows e)).take (rw_ rows e).1
def deep (ag rows : List Rw) : List Rw := (List.range rows.length).map fun e => (siz (slc ag rows e), put (rw_ rows e).2 (slc ag rows e))
theorem stt_add (ag : List Rw) (a b : Nat) : stt ag (a + b) = stt ag a + siz ((ag.drop a).take b) := by
  unfold stt siz
  rw [List.take_add, List.map_append, List.sum_append]
section
variable {n : Nat} {L : List T} {rows ag : List Rw}
theorem slc_len (h : Pin n L rows) (hl : ag.length = siz rows) {e : Nat} (he : e < rows.length) : (slc ag rows e).length = (rw_ rows e).1 := by
  have := stt_end he
  unfold slc
  rw [List.length_take, List.length_drop, hl]
  omega
theorem slc_pin (h : Pin n L rows) (hl : ag.length = siz rows) (ha : ∀ r ∈ ag, GF r.1 r.2) {e : Nat} (he : e < rows.length) : Pin (rw_ rows e).1 (rw_ rows e).2 (slc ag rows e) :=
  ⟨h.gf he, slc_len h hl he, fun r hr => ha r (List.mem_of_mem_drop (List.mem_of_mem_take hr))⟩
theorem deep_len : (deep ag rows).length = rows.length := by unfold deep; rw [List.length_map, List.length_range]
theorem deep_rw {e : Nat} (he : e < rows.length) : rw_ (deep ag rows) e = (siz (slc ag rows e), put (rw_ rows e).2 (slc ag rows e)) := by
  rw [rw_get (by rw [deep_len]; exact he)]
  unfold deep
  rw [List.getElem_map, List.getElem_range]
theorem deep_pin (h : Pin n L rows) (hl : ag.length = siz rows) (ha : ∀ r ∈ ag, GF r.1 r.2) : Pin n L (deep ag rows) := ⟨h.g, by rw [deep_len]; exact h.len, fun r hr => by
  obtain ⟨e, he, rfl⟩ := List.mem_map.mp hr
  exact put_gf (slc_pin h hl ha (List.mem_range.mp he))⟩
theorem deep_stt : ∀ e, e ≤ rows.length → stt (deep ag rows) e = stt ag (stt rows e)
  | 0, _ => by simp [stt]
  | e + 1, he => by
    have he' : e < rows.length := he
    rw [stt_succ (by rw [deep_len]; exact he'), deep_stt e (Nat.le_of_lt he'), deep_rw he', stt_succ he', stt_add]
    rfl
theorem deep_siz (hl : ag.length = siz rows) : siz (deep ag rows) = siz ag := by
  rw [← stt_all, deep_len, deep_stt _ (Nat.le_refl _), stt_all, ← hl, stt_all]
theorem put_put (h : Pin n L rows) (hl : ag.length = siz rows) (ha : ∀ r ∈ ag, GF r.1 r.2) : put (put L rows) ag = put L (deep ag rows) := by
  have p1 : Pin (siz rows) (put L rows) ag := ⟨put_gf h, hl, ha⟩
  have p2 := deep_pin h hl ha
  have g2 := put_gf p2
  rw [deep_siz hl] at g2
  refine gf_hp (put_gf p1) g2 fun S => ?_
  rw [hp_put p1, hp_put h, hp_put p2]
  refine hp_mem fun l hl' i hi => ?_
  have hi' := h.lt hl' hi
  have ps := slc_pin h hl ha hi'
  rw [deep_rw hi', hp_put ps, deep_stt _ (Nat.le_of_lt hi')]
  refine hp_mem fun m hm f hf => ?_
  have hf' := (h.gf hi').lt m hm f hf
  have e1 : rw_ ag (f + stt rows i) = rw_ (slc ag rows i) f := by
    have h1 : f < (slc ag rows i).length := by rw [slc_len h hl hi']; exact hf'
    have h2 : stt rows i + f < ag.length := by have := stt_end hi'; omega
    rw [Nat.add_comm]
    unfold rw_ slc
    simp [List.getD, List.getElem?_take, List.getElem?_drop]
    rw [if_pos (by simpa [rw_, List.getD] using hf')]
  have e2 : ∀ g, g + stt ag (f + stt rows i) = g + stt (slc ag rows i) f + stt ag (stt rows i) := fun g => by
    have : stt (slc ag rows i) f = siz ((ag.drop (stt rows i)).take f) := by
      show (((slc ag rows i).take f).map (·.1)).sum = (((ag.drop (stt rows i)).take f).map (·.1)).sum
      unfold slc
      rw [List.take_take, Nat.min_eq_left (Nat.le_of_lt hf')]
    rw [Nat.add_comm f, stt_add, this]
    omega
  rw [e1]
  refine hp_mem fun k hk g hg => ?_
  rw [e2 g]
end
end KM
set_option Elab.async false
set_option linter.all false
set_option autoImplicit false
set_option maxRecDepth 100000
set_option maxHeartbeats 1000000
/-! Own operators with a number, what leaves them by the slots; a class made through a local name; classmethods without arguments; further exceptions raised. -/
namespace Y
open PySem L2 PySem.Spec PyProof.Rows
/-- the class at C has the operator nm against ints, and ints do not know C -/
structure BinC (K : PySem.W.Frag) (C : Addr) (op : Operator) : Prop where
  hc : PySem.W.selfFirst K C = true
  hr : ∃ rc, PySem.W.findIn K (.ref C) (dunderR op.info.2) = some rc ∧ (rc = none ∨ ∃ g : Addr, rc = some (.ref g))
  h1 : ∃ fo, PySem.W.findIn K (.type "int") (PySem.dunder op.info.2) = some fo
  h2 : ∃ ro, PySem.W.findIn K (.type "int") (dunderR op.info.2) = some ro
  hs : PySem.W.subIn K (.type "int") (.ref C) = some false
/-- an operator of the class at C that may raise -/
structure ClB (P : Program) (w : World) (K : PySem.W.Frag) (mg : Str → Option Value) (base : Heap) (k : Nat) (C : Addr) (op : Operator) (sp : Sp) : Prop where
  ex : ∃ (f : Addr) (fd : FuncData) (ps : List Str), FnOk P w K mg base (L2.CX P w) k f fd ps sp ∧ PySem.W.findIn K (.ref C) (PySem.dunder op.info.2) = some (some (.ref f)) ∧ PySem.W.isFn K (.ref f) = true ∧ Binds K fd ps []
  bc : BinC K C op
/-- a op i, a an instance of C, i a number -/
def tBinO (C : Addr) (sp : Sp) (E : L2.St → XK) (ta tb : TE) : TE := fun σ H Q => ta σ H fun x H1 => tb σ H1 fun y H2 => ∃ a dx fs i, x = .ref a ∧ y = .int i ∧ H2 a = some (.ins C dx fs) ∧ sp [x, y] H2 Q (E σ)
section
variable {X : Cx} {k j : Nat} {C : Addr} {sp : Sp} {op : Operator} {a b : Expr} {ta tb : TE} {pos : Pos} {W : L2.WX}
theorem pe_binO (c : ClB X.prog X.w X.K X.mg X.base k C op sp) (hr : Room j X.A) (hk : k ≤ j) (tk : L2.Takes X W) (ha : PE X a ta) (hb : PE X b tb) : PE X (.BinOp a op b pos) (tBinO C sp (WE W) ta tb) := by
  obtain ⟨f, fd, ps, F, hs, hf, bi⟩ := c.ex
  obtain ⟨rc, r1, r2⟩ := c.bc.hr
  obtain ⟨fo, f1⟩ := c.bc.h1
  obtain ⟨ro, f2⟩ := c.bc.h2
  refine ⟨fun pins s σ H Q I h => ?_⟩
  refine wpAny_BinOp (binT ha hb I h fun v u s2 x y H2 I2 rx ry q => ?_)
  obtain ⟨o, dx, fs, i, rfl, rfl, ho, q⟩ := q
  obtain rfl : v = Value.ref o := rx
  obtain ⟨t, rfl⟩ := (show ∃ t, u = Value.int i t from ry)
  obtain ⟨mA, O, _⟩ := ins_get I2.hok ho
  obtain ⟨od, J, _⟩ := O.look
  obtain ⟨m, hF⟩ := I2.fr
  refine PySem.W.ksp_binT (T := "int") hF I2.ok.mod.kin J rfl c.bc.hc hs hf r1 r2 f1 f2 c.bc.hs ?_
  refine wpAny_mono (run_fnS (us := [.ref o, .int i t]) (vs := [.ref o, .int i]) F (hr.mono hk) bi (passAt tk σ) I2 (.cons rfl (.cons ⟨t, rfl⟩ .nil)) q) (fun w s' z => ?_) fun _ _ z => z
  obtain ⟨z', H', I', rz, qz⟩ := z
  exact SlX.cmpback rz ⟨z', H', I', rz, qz⟩
end
section
variable {K : PySem.W.Frag} {B : List Addr} {H0 : Hp} {Z : Hp → Prop} {E : List Slot} {ta tb te : TE} {ea : TA} {d : D} {l m : List D} {C : Addr} {ns : List Str} {pre : List D → D → Prop} {preE : List D → Addr → XF → Prop} {i : Int} {De : Ends}
theorem ep_binO {W : L2.St → XK} (ha : EP K B H0 Z ta E (.ins C ns l)) (hb : EP K B H0 Z tb E (.int i)) (hp : pre [.ins C ns l, .int i] d) : EP K B H0 Z (tBinO C (PureE K pre preE) W ta tb) E d := fun σ H e Q q =>
  ha σ H e _ fun v H1 e1 h1 => hb σ H1 (e.ext e1) _ fun u H2 e2 h2 => by
    cases h2
    have h1' := h1.mono e2
    obtain ⟨a, dx, fs, rfl, ho, hn, hl⟩ := h1'.ins_inv
    exact ⟨a, dx, fs, i, rfl, rfl, ho, [.ins C ns l, .int i], .cons h1' (.one (.int i)), .inl ⟨d, hp, fun v H3 e3 h3 => q v H3 ((e1.trans e2).trans e3) h3⟩⟩
theorem er_binO {W : L2.WX} {C' : Addr} {x : XF} (ha : EP K B H0 Z ta E (.ins C ns l)) (hb : EP K B H0 Z tb E (.int i)) (hp : preE [.ins C ns l, .int i] C' x) (hw : WF_ K B H0 Z E W C' x) : ER K B H0 Z (tBinO C (PureE K pre preE) (WE W) ta tb) E := fun σ H e Q =>
  ha σ H e _ fun v H1 e1 h1 => hb σ H1 (e.ext e1) _ fun u H2 e2 h2 => by
    cases h2
    have h1' := h1.mono e2
    obtain ⟨a, dx, fs, rfl, ho, hn, hl⟩ := h1'.ins_inv
    exact ⟨a, dx, fs, i, rfl, rfl, ho, [.ins C ns l, .int i], .cons h1' (.one (.int i)), .inr ⟨C', x, hp, fun dd H3 e3 h3 => hw σ H3 (e.ext ((e1.trans e2).trans e3)) dd h3⟩⟩
/-! further exceptions raised -/
theorem sd_raiseZ {W : L2.WX} {n : Int} (h : EA K B H0 Z ea E [.int n]) (hn : n.natAbs < 1000000) (hw : WF_ K B H0 Z E W C (xS n)) : SD K B H0 Z (fun _ σ H => tExz C ea σ H fun cls d H' => W cls d σ H') De E := fun σ H e =>
  h σ H e _ fun vs H1 e1 h1 => by
    cases h1 with
    | cons a t =>
      cases a; cases t
      exact ⟨n, rfl, hn, fun d nd => hw σ _ (e.ext (e1.trans (Ex.new nd))) d upd_same⟩
theorem sd_raiseT {W : L2.WX} (h : EA K B H0 Z ea E [d]) (hd : d.fl = true) (hw : WF_ K B H0 Z E W C (xT d.v)) : SD K B H0 Z (fun _ σ H => tExt C ea σ H fun cls d H' => W cls d σ H') De E := fun σ H e =>
  h σ H e _ fun vs H1 e1 h1 => by
    cases h1 with
    | cons a t =>
      cases t
      obtain ⟨rfl, _⟩ := a.fl hd
      exact ⟨d.v, rfl, fun d nd => hw σ _ (e.ext (e1.trans (Ex.new nd))) d upd_same⟩
theorem sd_raiseL {W : L2.WX} {n : Int} {x : Str} (h : EA K B H0 Z ea E [.int n, .str x]) (hn : n.natAbs < 1000000) (hx : x.length ≤ 100) (hw : WF_ K B H0 Z E W C (xL n x)) : SD K B H0 Z (fun _ σ H => tExl C ea σ H fun cls d H' => W cls d σ H') De E := fun σ H e =>
  h σ H e _ fun vs H1 e1 h1 => by
    cases h1 with
    | cons a t =>
      cases t with
      | cons b t =>
        cases a; cases b; cases t
        exact ⟨n, x, rfl, hn, hx, fun d nd => hw σ _ (e.ext (e1.trans (Ex.new nd))) d upd_same⟩
end
/-! a class made through a local name -/
def tMakeV (i : Nat) (C : Addr) (sp : Sp) (E : XK) (t : TA) : TE := fun σ H Q => σ[i]? = some (some (.ref C)) ∧ tMake C sp [] E t σ H Q
section
variable {X : Cx} {k j i : Nat} {C : Addr} {x y : Str} {sp : Sp} {p pos apos : Pos} {e o : Expr} {es : List Expr} {ta : TE} {t : TA}
theorem pe_makeV (c : ClI X.prog X.w X.K X.mg X.base k C x sp) (hr : Room j X.A) (hk : k + 1 ≤ j) (hN : X.N[i]? = some y) (hv : Vis X.env.scope y) (ha : PA X (e :: es) t)
    (hd : (y == ("__debug__" : Str)) = false := by decide) (hcd : (y == ("__classdict__" : Str)) = false := by decide)
    (he : starEach (e :: es) X.env = (false, eval e X.env) :: starEach es X.env := by rfl) (hpl : (backTo pos (starEach es X.env)).any (·.1) = false := by rfl) :
    PE X (.Call (.Name y p) (e :: es) [] pos) (tMakeV i C sp E0 t) := by
  obtain ⟨f, fd, ps, F, M, hm, b⟩ := c.ex
  refine ⟨fun pins s σ H Q I h => ?_⟩
  obtain ⟨hs, h⟩ := h
  refine wpAny_Call_Name_kw (thn ((pe_var (pos := p) (i := i) hN hv hd hcd).run pins s σ H (fun v H1 => v = .ref C ∧ H1 = H) I ⟨.ref C, hs, rfl, rfl⟩) fun u s1 ⟨v, H1, I1, r1, ev, eH⟩ => ?_)
  subst ev
  rw [eH] at I1
  cases r1
  refine PySem.W.callWith_K (h₀ := X.base) I.ok.mod.kin M.kp (thn (ha.run pos pins s1 σ H _ I1 h) fun us s2 ⟨vs, H2, I2, r, q⟩ => ⟨I2.kIn, ?_⟩) he hpl
  exact run_make M F (hr.mono hk) b .nil pass0 I2 r q
end
section
variable {K : PySem.W.Frag} {B : List Addr} {H0 : Hp} {Z : Hp → Prop} {E : List Slot} {ea : TA} {d : D} {l m : List D} {C : Addr} {ns : List Str} {i : Nat}
theorem ep_makeV {pre : List D → List Str → List D → Prop} {ex : XK} (hi : E[i]? = some (.val (.adr C))) (h : EA K B H0 Z ea E l) (hp : pre l ns m) : EP K B H0 Z (tMakeV i C (InitP K C pre) ex ea) E (.ins C ns m) := fun σ H e Q q => by
  obtain ⟨v, h1, h2⟩ := e.val i _ hi
  cases h2
  exact ⟨h1, ep_make h hp σ H e Q q⟩
end
/-! a classmethod without arguments: C.m() -/
structure ClK (P : Program) (w : World) (K : PySem.W.Frag) (mg : Str → Option Value) (base : Heap) (k : Nat) (C : Addr) (m : Str) (sp : Sp) : Prop where
  ex : ∃ (mc : Value) (p g : Addr), ClX.CRead K C mc ∧ ClX.CMet K C mc m p g ∧ FnR P w K mg base CX0 k g sp
section
variable {X : Cx} {k j : Nat} {C : Addr} {x m : Str} {sp : Sp} {p pos apos : Pos} {pl : Sem Bool}
theorem pe_cmeth0 {o : Expr} {ta : TE} (c : ClK X.prog X.w X.K X.mg X.base k C m sp) (hr : Room j X.A) (hk : k ≤ j) (he : PE X o ta)
    (ht : eval (.Call (.Attribute o m apos) [] [] pos) X.env = (do
      let ov ← eval o X.env
      standAt apos.atName
      let (f, first) ← holding [ov] (getMethod ov m pl)
      callWith pos f first (backTo pos (starEach [] X.env)) (backToKw pos (keywordEach [] X.env))) := by rfl) :
    PE X (.Call (.Attribute o m apos) [] [] pos) (ClX.tCMeth C sp E0 ta tNil) := by
  obtain ⟨mc, pp, g, r, c, F⟩ := c.ex
  refine ⟨fun pins s σ H Q I h => ?_⟩
  refine PySem.W.methodCall_KW (pl := pl) (thn (he.run pins s σ H _ I h) fun u s1 ⟨x, H1, I1, rx, ex, q⟩ => ?_) ht
  subst ex
  obtain rfl : u = Value.ref C := rx
  refine ClX.getmethcm_ok I1 r c fun s2 I2 => ?_
  refine PySem.W.callWith_M0 (first := []) ⟨ClX.pin_at I2, I2.kIn⟩ c.fi ?_
  exact ClX.run_cm (us := []) (vs := []) F (hr.mono hk) pass0 I2 .nil q
end
section
variable {K : PySem.W.Frag} {B : List Addr} {H0 : Hp} {Z : Hp → Prop} {E : List Slot} {te : TE} {d : D} {C : Addr}
theorem ep_cmeth0 {pre : List D → D → Prop} (h : EP K B H0 Z te E (.adr C)) (hp : pre [.adr C] d) : EP K B H0 Z (ClX.tCMeth C (Pure K pre) E0 te tNil) E d := fun σ H e Q q =>
  h σ H e _ fun v H1 e1 h1 => by
    cases h1
    exact ⟨rfl, [.adr C], d, .one (.adr C), hp, fun v H3 e3 h3 => q v H3 (e1.trans e3) h3⟩
end
end Y
set_option Elab.async false
set_option linter.all false
set_option autoImplicit false
set_option maxRecDepth 100000
set_option maxHeartbeats 1000000
/-! in, of a tuple at depth; ^ of numbers. -/
namespace Y
open PySem L2
def rInTD (K : PySem.W.Frag) : R2 := fun x y H Q => ∃ d ds, Dp K H x d ∧ Dp K H y (.tuple ds) ∧ SeqAt.shaped d = true ∧ SeqAt.shaped (.tuple ds) = true ∧ Q (.bl (ds.any fun z => PyData.eqv z d)) H
theorem op_inTD {X : Cx} (hu : X.A.units + 65 < cLine) : OpR X (compareOp .In) (rInTD X.K) := by
  intro pins s σ H x y v u Q I rx ry h
  obtain ⟨d, ds, hd, he, sd, se, q⟩ := h
  obtain ⟨as, r1⟩ := Dp.reads I d x v hd rx
  obtain ⟨bs, r2⟩ := Dp.reads I (.tuple ds) y u he ry
  exact SeqAt.in_tuple_reads r2 r1 (SeqAt.canLay_of_shaped se) (SeqAt.canLay_of_shaped sd) (PyProof.Rows.room_in_shaped sd hu) ⟨.bl _, H, I, rfl, q⟩
section
variable {K : PySem.W.Frag} {B : List Addr} {H0 : Hp} {Z : Hp → Prop} {E : List Slot} {x y : D} {l : List D} {a b : Nat}
theorem r2_inTD {b : Bool} (hx : Cmpb x) (hy : Cmpb (.tup l)) (hb : (b = true ↔ x ∈ l)) : R2d K (rInTD K) x (.tup l) (.bl b) := fun vx vy H h1 h2 Q q => by
  have p : plAll l = true := by simpa [D.pl] using hy.pl
  refine ⟨x.py, pyAll l, h1.dp hx.pl, ?_, shaped_pl hx.so hx.dep, ?_, q _ H (Ex.refl H) ?_⟩
  · have := h2.dp hy.pl
    simpa [D.py] using this
  · have := shaped_pl hy.so hy.dep
    simpa [D.py] using this
  · have e : ((pyAll l).any fun z => PyData.eqv z x.py) = b := by
      rw [Bool.eq_iff_iff, any_py hx.pl p, hb]
    rw [e]
    exact .bl _
theorem r2_xor : R2d K (rI0 fun i j => .int (Builtin.bitXor i j)) (iD a) (iD b) (iD (a ^^^ b)) := by
  have h := r2_int (K := K) (g := fun i j => Builtin.bitXor i j) (i := (a : Int)) (j := (b : Int))
  have e : Builtin.bitXor (a : Int) (b : Int) = ((a ^^^ b : Nat) : Int) := by
    rw [Bits.bitXor_pp (Int.natCast_nonneg _) (Int.natCast_nonneg _), Int.toNat_natCast, Int.toNat_natCast]
  rw [e] at h
  exact h
end
end Y
set_option Elab.async false
set_option linter.all false
set_option autoImplicit false
set_option maxRecDepth 100000
set_option maxHeartbeats 4000000
namespace Y
open PySem L2
/-- an own exception class with a number size | any thing | a thing and a word -/
structure XcZ (P : Program) (K : PySem.W.Frag) (mg : Str → Option Value) (nm txt : Str) (C f : Addr) : Prop where
  c : ExcZ K P C f txt
  m : mg nm = some (.ref C)
  s : mg "super" = none
structure XcT (P : Program) (K : PySem.W.Frag) (mg : Str → Option Value) (nm txt : Str) (C f : Addr) : Prop where
  c : ExcT K P C f txt
  m : mg nm = some (.ref C)
  s : mg "super" = none
structure XcL (P : Program) (K : PySem.W.Frag) (mg : Str → Option Value) (nm txt tx2 : Str) (C f : Addr) : Prop where
  c : ExcL K P C f txt tx2
  m : mg nm = some (.ref C)
  s : mg "super" = none
section
variable {P : Program} {w : World} {K : PySem.W.Frag} {mg : Str → Option Value} {base : Heap}
/-! ask_thing -/
abbrev s_ask_thing : Stmt := topS 17
abbrev N_ask_thing : List Str := ["thing", "size"]
theorem sc_ask_thing : FnScope N_ask_thing ["thing", "size"] (defScope s_ask_thing) := ⟨rfl, rfl, rfl, by decide +kernel, rfl, by decide +kernel, by decide +kernel⟩
def p_athing (ds : List D) (d : D) : Prop := ∃ t n : Nat, t < n ∧ ds = [iD t, iD n] ∧ d = .non
def q_athing (CT : Addr) (ds : List D) (C' : Addr) (x : XF) : Prop := C' = CT ∧ ∃ (e : D) (n : Nat), e.tyN.isSome = true ∧ e.fl = true ∧ isTh e n = false ∧ ds = [e, iD n] ∧ x = xT e.v
theorem ok_ask_thing {f CT fT : Addr} {fd : FuncData} (F : Fun K "ask_thing" "ask_thing" s_ask_thing f fd) (T : Txt mg) (xT : XcT P K mg "BadThing" "bad thing" CT fT) (c_is_thing : Cl P w K mg base 2 "is_thing" (Pure K p_is_thing)) :
    FnOk P w K mg base (L2.CX P w) 3 f fd ["thing", "size"] (PureE K p_athing (q_athing CT)) := by
  refine pureE_ok F sc_ask_thing (fun ds h => by
    rcases h with ⟨d, _, _, _, rfl, _⟩ | ⟨_, _, _, _, _, _, _, _, rfl, _⟩ <;> rfl) (by decide) fun cdv A outer s H E hr => ?_
  have tk : L2.Takes (cxOf (L2.CX P w) P w K mg base N_ask_thing "ask_thing" (defScope s_ask_thing) f cdv A outer s H E) (fun cls d _ H => E cls d H) := takes_of rfl rfl rfl rfl
  refine ⟨_, (pss_one (ps_if (pt_not (pt_val (pe_cl c_is_thing hr (by decide) (by rfl) (pa_cons (pv 0) (pa_cons (pv 1) pa_nil)))))
    (pss_one (ps_raise (by rfl) tk (pmk_ext (k := 0) xT.c (by decide) (hr.mono (by decide)) (by rfl) xT.m xT.s (pa_cons (pv 0) pa_nil)))) pss_nil)), ?_, ?_⟩
  · rintro ds d ⟨t, n, ht, rfl, rfl⟩ De o
    refine sd_if (et_not (et_B (ep_call (ea_cons (ep_var rfl) (ea_cons (ep_var rfl) ea_nil)) ⟨iD t, n, rfl, rfl, rfl⟩))) (fun h => ?_) (fun h => sd_end o)
    rw [isTh_nat, decide_eq_true ht] at h
    cases h
  · rintro ds C' x ⟨rfl, e, n, he, hf, hb, rfl, rfl⟩ De o
    refine sd_if (et_not (et_B (ep_call (ea_cons (ep_var rfl) (ea_cons (ep_var rfl) ea_nil)) ⟨e, n, he, rfl, rfl⟩))) (fun h => sd_raiseT (ea_cons (ep_var rfl) ea_nil) hf (wf_of o)) (fun h => ?_)
    rw [hb] at h
    cases h
/-! lots_without -/
abbrev s_lots_without : Stmt := topS 25
abbrev N_lots_without : List Str := ["lots", "things", "mask", "lot"]
theorem sc_lots_without : FnScope N_lots_without ["lots", "things"] (defScope s_lots_without) := ⟨rfl, rfl, rfl, by decide +kernel, rfl, by decide +kernel, by decide +kernel⟩
def p_without (ds : List D) (d : D) : Prop := ∃ (ls : List (List Nat)) (t : Nat), Lots ls ∧ t < 1000 ∧ ds = [tsD ls, tD [t]] ∧ d = tsD (KM.leftL t ls)
theorem sm_one {t : Nat} (h : t < 1000) : Sm [t] := ⟨fun x hx => by simp at hx; omega, by simp⟩
theorem ok_lots_without {f : Addr} {fd : FuncData} (F : Fun K "lots_without" "lots_without" s_lots_without f fd) (T : Txt mg) (c_mask_of : Cl P w K mg base 1 "mask_of" (Pure K p_mask_of)) : FnOk P w K mg base CX0 2 f fd ["lots", "things"] (Pure K p_without) := by
  refine pure_ok F sc_lots_without (fun ds d h => by obtain ⟨_, _, _, _, rfl, _⟩ := h; rfl) (by decide) fun cdv A outer s H E hr => ?_
  refine ⟨_, (pss_cons (ps_set (i := 2) sc_lots_without.nd rfl (Or.inr rfl) (pe_cl c_mask_of hr (by decide) (by rfl) (pa_cons (pv 1) pa_nil)))
    (pss_one (ps_ret (pe_callTy (r := rTupOf K) call_tupY (by rfl) T.tuple (by decide +kernel) (pa_cons (pe_lc (own := [("lot", 3)]) (g := gName 3) rfl sc_lots_without.nd (pi_tup (pv 0)) (blkOk_by (N := N_lots_without) (sc := defScope s_lots_without) (by decide +kernel)) (fun _ _ _ _ _ => pg_name (i := 3) sc_lots_without.nd rfl (Or.inl rfl)) (fun _ _ _ _ _ => (pts_one (pt_cmpR op_eq (pe_op op_and (pe_cl c_mask_of hr (by decide) (by rfl) (pa_cons (pv 3) pa_nil)) (pv 2)) pe_int (nomark _)))) (fun _ _ _ _ _ => (pv 3))) pa_nil))))), ?_⟩
  rintro ds d ⟨ls, t, hL, ht, rfl, rfl⟩ De o
  have hz := hL.len
  refine sd_seq (sd_asg (d := iD (KM.maskOf [t])) (ep_call (ea_cons (ep_var (i := 1) (d := tD [t]) rfl) ea_nil) ⟨[t], sm_one ht, rfl, rfl⟩) rfl (sd_go ?_))
  refine sd_ret (d := tsD (KM.leftL t ls)) (ep_cb (ea_cons (EF.p (ef_lcT (c := tD) (ts := ls) (fun l => KM.maskOf l &&& KM.maskOf [t] == 0) tD (ep_var (i := 0) rfl) (fun _ _ => tD_im _) (by omega) (fun l hl => ?_) (fun l hl _ => ep_var (i := 3) rfl) (fun _ _ _ => tD_im _))) ea_nil) rc_tupleL) o.rt
  exact et_test (ep_op (ep_op (ep_call (ea_cons (ep_var (i := 3) (d := tD l) rfl) ea_nil) ⟨l, hL.sm l hl, rfl, rfl⟩) (ep_var (i := 2) (d := iD (KM.maskOf [t])) rfl) r2_and) ep_n0 r2_eqN)
/-! lots_held -/
abbrev s_lots_held : Stmt := topS 26
abbrev N_lots_held : List Str := ["lots", "things", "mask", "lot"]
theorem sc_lots_held : FnScope N_lots_held ["lots", "things"] (defScope s_lots_held) := ⟨rfl, rfl, rfl, by decide +kernel, rfl, by decide +kernel, by decide +kernel⟩
def p_held (ds : List D) (d : D) : Prop := ∃ (ls : List (List Nat)) (t : Nat), Lots ls ∧ t < 1000 ∧ [t] ∉ ls ∧ ds = [tsD ls, tD [t]] ∧ d = tsD (KM.heldL t ls)
theorem ok_lots_held {f : Addr} {fd : FuncData} (F : Fun K "lots_held" "lots_held" s_lots_held f fd) (T : Txt mg) (c_mask_of : Cl P w K mg base 1 "mask_of" (Pure K p_mask_of)) (c_least_masks : Cl P w K mg base 1 "least_masks" (Fresh K p_least_masks))
    (c_lots_of_masks : Cl P w K mg base 2 "lots_of_masks" (Pure K p_lots_of_masks)) : FnOk P w K mg base CX0 3 f fd ["lots", "things"] (Pure K p_held) := by
  refine pure_ok F sc_lots_held (fun ds d h => by obtain ⟨_, _, _, _, _, rfl, _⟩ := h; rfl) (by decide) fun cdv A outer s H E hr => ?_
  refine ⟨_, (pss_cons (ps_set (i := 2) sc_lots_held.nd rfl (Or.inr rfl) (pe_cl c_mask_of hr (by decide) (by rfl) (pa_cons (pv 1) pa_nil)))
    (pss_one (ps_ret (pe_cl c_lots_of_masks hr (by decide) (by rfl) (pa_cons (pe_cl c_least_masks hr (by decide) (by rfl) (pa_cons (pe_lc (own := [("lot", 3)]) (g := gName 3) rfl sc_lots_held.nd (pi_tup (pv 0)) (blkOk_by (N := N_lots_held) (sc := defScope s_lots_held) (by decide +kernel)) (fun _ _ _ _ _ => pg_name (i := 3) sc_lots_held.nd rfl (Or.inl rfl)) (fun _ _ _ _ _ => pts_nil) (fun _ _ _ _ _ => (pe_op op_xor (pe_op op_or (pe_cl c_mask_of hr (by decide) (by rfl) (pa_cons (pv 3) pa_nil)) (pv 2)) (pv 2)))) pa_nil)) pa_nil))))), ?_⟩
  rintro ds d ⟨ls, t, hL, ht, hn, rfl, rfl⟩ De o
  have hz := hL.len
  refine sd_seq (sd_asg (d := iD (KM.maskOf [t])) (ep_call (ea_cons (ep_var (i := 1) (d := tD [t]) rfl) ea_nil) ⟨[t], sm_one ht, rfl, rfl⟩) rfl (sd_go ?_))
  have hm : ∀ m ∈ ls.map (fun l => (KM.maskOf l ||| KM.maskOf [t]) ^^^ KM.maskOf [t]), m < 2 ^ 1000 ∧ m ≠ 0 := fun m hm => by
    obtain ⟨l, hl, rfl⟩ := List.mem_map.mp hm
    rw [KM.held_mask (hL.asc l hl)]
    have a := (hL.asc l hl).filter (fun x => decide (x ≠ t))
    have s : Sm (l.filter fun x => decide (x ≠ t)) := ⟨fun x hx => (hL.sm l hl).lt x (List.mem_filter.mp hx).1, Nat.lt_of_le_of_lt (List.length_filter_le _ _) (hL.sm l hl).len⟩
    refine ⟨mask_lt a s, mask_ne a fun z => hn ?_⟩
    have al : ∀ x ∈ l, x = t := fun x hx => by
      have := List.filter_eq_nil_iff.mp z x hx
      simpa using this
    obtain ⟨y, r, e⟩ := List.exists_cons_of_ne_nil (hL.ne l hl)
    have asc := hL.asc l hl
    rw [e] at al asc
    have e1 := al y (by simp)
    cases r with
    | nil => rw [← e1, ← e]; exact hl
    | cons z r =>
      have := al z (by simp)
      have := (List.pairwise_cons.mp asc).1 z (by simp)
      omega
  have e0 : EF K [] H (fun _ => True) (tLc (iTup K (tVar 0)) (gName 3) tYes (tOp (rI0 fun i j => .int (Builtin.bitXor i j)) (tOp (rI0 fun i j => .int (Builtin.bitOr i j)) (tCall (Pure K p_mask_of) [] E0 (tCons (tVar 3) tNil)) (tVar 2)) (tVar 2)) [3]) ((entry N_lots_held [tsD ls, tD [t]]).set 2 (.val (iD (KM.maskOf [t])))) ((ls.map (fun l => (KM.maskOf l ||| KM.maskOf [t]) ^^^ KM.maskOf [t])).map iD) := by
    rw [List.map_map]
    exact ef_lcT1 (c := tD) (ts := ls) (fun l => iD ((KM.maskOf l ||| KM.maskOf [t]) ^^^ KM.maskOf [t])) (ep_var (i := 0) rfl) (fun _ _ => tD_im _) (by omega) (fun l hl => ep_op (ep_op (ep_call (ea_cons (ep_var (i := 3) (d := tD l) rfl) ea_nil) ⟨l, hL.sm l hl, rfl, rfl⟩) (ep_var (i := 2) (d := iD (KM.maskOf [t])) rfl) r2_or) (ep_var (i := 2) (d := iD (KM.maskOf [t])) rfl) r2_xor) (fun _ _ => rfl)
  refine sd_ret (ep_call (ea_cons (EF.p (ef_call (ea_cons (EF.p e0) ea_nil) ⟨_, by rw [List.length_map]; exact hz, rfl, rfl⟩)) ea_nil) ⟨_, ?_, fun m h => (hm m (leastMasks_sub m h)).1, .inr fun m h => (hm m (leastMasks_sub m h)).2, rfl, rfl⟩) o.rt
  have := leastMasks_len (ls.map (fun l => (KM.maskOf l ||| KM.maskOf [t]) ^^^ KM.maskOf [t]))
  rw [List.length_map] at this
  omega
/-! Family.single -/
abbrev s_Family_single : Stmt := inClass (topS 34) 1
abbrev N_Family_single : List Str := ["cls"]
theorem sc_Family_single : FnScope N_Family_single ["cls"] (defScope s_Family_single) := ⟨rfl, rfl, rfl, by decide +kernel, rfl, by decide +kernel, by decide +kernel⟩
def p_single (C : Addr) (ds : List D) (d : D) : Prop := ds = [.adr C] ∧ d = famD C 1 [[0]]
theorem gf_one : KM.GF 1 [[0]] := ⟨by decide, by simp, ⟨by simp [KM.asc_one], List.pairwise_singleton _ _, by simp⟩, by simp, by simp⟩
theorem in_one : InOk 1 [[0]] := ⟨by decide, by decide, by simp, by simp, by simp, by simp [KM.asc_one], by simp⟩
theorem ok_single {f C : Addr} {fd : FuncData} (F : Fun K "single" "Family.single" s_Family_single f fd) (T : Txt mg) (fc : FamC K mg C) (c_Family : ClI P w K mg base 5 C "Family" (InitP K C p_init)) : FnOk P w K mg base CX0 7 f fd ["cls"] (Pure K (p_single C)) := by
  refine pure_ok F sc_Family_single (fun ds d h => by obtain ⟨rfl, _⟩ := h; rfl) (by decide) fun cdv A outer s H E hr => ?_
  refine ⟨_, (pss_one (ps_ret (pe_makeV (i := 0) c_Family hr (by decide) rfl (Or.inl rfl) (pa_cons pe_int (pa_cons (pe_lst (pa_cons (pe_tup (pa_cons pe_int pa_nil)) pa_nil)) pa_nil))))), ?_⟩
  rintro ds d ⟨rfl, rfl⟩ De o
  refine sd_ret (ep_makeV (ns := ["things", "lots"]) (l := [iD 1, lsD [[0]]]) (m := [iD 1, tsD [[0]]]) rfl (ea_cons (ep_int (i := 1)) (ea_cons (EF.p (ef_lst (ea_cons (ep_tup (l := [.int 0]) (ea_cons (ep_int (i := 0)) ea_nil)) ea_nil))) ea_nil)) ⟨1, [[0]], lsD [[0]], in_one, .inr rfl, rfl, rfl, by rw [KM.least_good gf_one.g]⟩) o.rt
/-! Family.sub -/
abbrev s_Family_sub : Stmt := inClass (topS 34) 11
abbrev N_Family_sub : List Str := ["self", "thing", "kept"]
theorem sc_Family_sub : FnScope N_Family_sub ["self", "thing"] (defScope s_Family_sub) := ⟨rfl, rfl, rfl, by decide +kernel, rfl, by decide +kernel, by decide +kernel⟩
def p_sub (C : Addr) (ds : List D) (d : D) : Prop := ∃ (n t : Nat) (L : List (List Nat)), InOk n L ∧ KM.GF n L ∧ t < n ∧ KM.leftL t L ≠ [] ∧ ds = [famD C n L, iD t] ∧ d = famD C n (KM.leftL t L)
def q_sub (C CL : Addr) (ds : List D) (C' : Addr) (x : XF) : Prop := C' = CL ∧ ∃ (n t : Nat) (L : List (List Nat)), InOk n L ∧ t < n ∧ KM.leftL t L = [] ∧ ds = [famD C n L, iD t] ∧ x = xL (t : Int) "left"
theorem ok_sub {f C CT CL fL : Addr} {fd : FuncData} (F : Fun K "__sub__" "Family.__sub__" s_Family_sub f fd) (T : Txt mg) (fc : FamC K mg C) (xL : XcL P K mg "Lost" "lost: thing " " can not be " CL fL) (c_ask_thing : Cl P w K mg base 3 "ask_thing" (PureE K p_athing (q_athing CT)))
    (c_lots_without : Cl P w K mg base 2 "lots_without" (Pure K p_without)) (c_Family : ClI P w K mg base 5 C "Family" (InitP K C p_init)) : FnOk P w K mg base (L2.CX P w) 7 f fd ["self", "thing"] (PureE K (p_sub C) (q_sub C CL)) := by
  refine pureE_ok F sc_Family_sub (fun ds h => by
    rcases h with ⟨d, _, _, _, _, _, _, _, rfl, _⟩ | ⟨_, _, _, _, _, _, _, _, _, rfl, _⟩ <;> rfl) (by decide) fun cdv A outer s H E hr => ?_
  have tk : L2.Takes (cxOf (L2.CX P w) P w K mg base N_Family_sub "Family.__sub__" (defScope s_Family_sub) f cdv A outer s H E) (fun cls d _ H => E cls d H) := takes_of rfl rfl rfl rfl
  refine ⟨_, (pss_cons (ps_expr (pe_cl c_ask_thing hr (by decide) (by rfl) (pa_cons (pv 1) (pa_cons (pe_fld (pv 0) rfl) pa_nil))))
    (pss_cons (ps_set (i := 2) sc_Family_sub.nd rfl (Or.inl rfl) (pe_cl c_lots_without hr (by decide) (by rfl) (pa_cons (pe_fld (pv 0) rfl) (pa_cons (pe_tup (pa_cons (pv 1) pa_nil)) pa_nil))))
    (pss_cons (ps_if (pt_cmpR op_eq (pe_callB (r := rLen K) call_lenY (by rfl) T.len PySem.boot_len (pa_cons (pv 2) pa_nil)) pe_int (nomark _))
      (pss_one (ps_raise (by rfl) tk (pmk_exl (k := 0) xL.c (by decide) (by decide) (hr.mono (by decide)) (by rfl) xL.m xL.s (pa_cons (pv 1) (pa_cons pe_str pa_nil))))) pss_nil)
    (pss_one (ps_ret (pe_clI c_Family hr (by decide) (by rfl) (pa_cons (pe_fld (pv 0) rfl) (pa_cons (pv 2) pa_nil)))))))), ?_, ?_⟩
  · rintro ds d ⟨n, t, L, hi, g, ht, hne, rfl, rfl⟩ De o
    have n2 := hi.n2
    refine sd_seq (sd_drop (d := .non) (ep_callE (ea_cons (ep_var (i := 1) (d := iD t) rfl) (ea_cons (ep_fld (ep_var (i := 0) (d := famD C n L) rfl) fc.ob.cl fc.nt rfl) ea_nil)) ⟨t, n, ht, rfl, rfl⟩) (sd_go ?_))
    refine sd_seq (sd_asg (d := tsD (KM.leftL t L)) (ep_call (ea_cons (ep_fld (ep_var (i := 0) (d := famD C n L) rfl) fc.ob.cl fc.nl rfl) (ea_cons (ep_tup (l := [iD t]) (ea_cons (ep_var (i := 1) (d := iD t) rfl) ea_nil)) ea_nil)) ⟨L, t, hi.lots, by omega, rfl, rfl⟩) (tsD_im _) (sd_go ?_))
    refine sd_seq (sd_if (et_test (ep_op (ep_is (ep_cb (ea_cons (ep_var (i := 2) (d := .tup ((KM.leftL t L).map tD)) rfl) ea_nil) rc_lenTn) rfl) ep_n0 r2_eqN)) (fun h => ?_) (fun h => sd_go ?_))
    · exact absurd (by simpa using h) hne
    · have g2 := KM.left_gf g hne
      refine sd_ret (ep_make (m := [iD n, tsD (KM.leftL t L)]) (ns := ["things", "lots"]) (ea_cons (ep_fld (ep_var (i := 0) (d := famD C n L) rfl) fc.ob.cl fc.nt rfl) (ea_cons (ep_var (i := 2) (d := tsD (KM.leftL t L)) rfl) ea_nil)) ⟨n, KM.leftL t L, tsD (KM.leftL t L), ?_, .inl rfl, rfl, rfl, by rw [KM.least_good g2.g]⟩) o.rt
      exact ⟨hi.n1, hi.n2, hne, Nat.lt_of_le_of_lt (List.length_filter_le _ _) hi.len, g2.lne, g2.g.asc, g2.lt⟩
  · rintro ds C' x ⟨rfl, n, t, L, hi, ht, hnil, rfl, rfl⟩ De o
    have n2 := hi.n2
    refine sd_seq (sd_drop (d := .non) (ep_callE (ea_cons (ep_var (i := 1) (d := iD t) rfl) (ea_cons (ep_fld (ep_var (i := 0) (d := famD C n L) rfl) fc.ob.cl fc.nt rfl) ea_nil)) ⟨t, n, ht, rfl, rfl⟩) (sd_go ?_))
    refine sd_seq (sd_asg (d := tsD (KM.leftL t L)) (ep_call (ea_cons (ep_fld (ep_var (i := 0) (d := famD C n L) rfl) fc.ob.cl fc.nl rfl) (ea_cons (ep_tup (l := [iD t]) (ea_cons (ep_var (i := 1) (d := iD t) rfl) ea_nil)) ea_nil)) ⟨L, t, hi.lots, by omega, rfl, rfl⟩) (tsD_im _) (sd_go ?_))
    refine sd_seq (sd_if (et_test (ep_op (ep_is (ep_cb (ea_cons (ep_var (i := 2) (d := .tup ((KM.leftL t L).map tD)) rfl) ea_nil) rc_lenTn) rfl) ep_n0 r2_eqN)) (fun h => ?_) (fun h => ?_))
    · exact sd_raiseL (ea_cons (ep_var (i := 1) (d := iD t) rfl) (ea_cons ep_str ea_nil)) (by omega) (by decide) (wf_of o)
    · rw [hnil] at h
      simp at h
/-! Family.floordiv -/
abbrev s_Family_floordiv : Stmt := inClass (topS 34) 12
abbrev N_Family_floordiv : List Str := ["self", "thing"]
theorem sc_Family_floordiv : FnScope N_Family_floordiv ["self", "thing"] (defScope s_Family_floordiv) := ⟨rfl, rfl, rfl, by decide +kernel, rfl, by decide +kernel, by decide +kernel⟩
def p_fdiv (C : Addr) (ds : List D) (d : D) : Prop := ∃ (n t : Nat) (L : List (List Nat)), InOk n L ∧ KM.GF n L ∧ t < n ∧ [t] ∉ L ∧ ds = [famD C n L, iD t] ∧ d = famD C n (KM.heldL t L)
def q_fdiv (C CL : Addr) (ds : List D) (C' : Addr) (x : XF) : Prop := C' = CL ∧ ∃ (n t : Nat) (L : List (List Nat)), InOk n L ∧ t < n ∧ [t] ∈ L ∧ ds = [famD C n L, iD t] ∧ x = xL (t : Int) "held"
theorem held_len (t : Nat) (L : List (List Nat)) : (KM.heldL t L).length ≤ L.length := by
  have := leastMasks_len (L.map (fun l => (KM.maskOf l ||| KM.maskOf [t]) ^^^ KM.maskOf [t]))
  rw [List.length_map] at this
  unfold KM.heldL KM.lotsOfMasks
  rw [KM.srt_len, List.length_map]
  exact this
theorem ok_fdiv {f C CT CL fL : Addr} {fd : FuncData} (F : Fun K "__floordiv__" "Family.__floordiv__" s_Family_floordiv f fd) (T : Txt mg) (fc : FamC K mg C) (xL : XcL P K mg "Lost" "lost: thing " " can not be " CL fL) (c_ask_thing : Cl P w K mg base 3 "ask_thing" (PureE K p_athing (q_athing CT)))
    (c_lots_held : Cl P w K mg base 3 "lots_held" (Pure K p_held)) (c_Family : ClI P w K mg base 5 C "Family" (InitP K C p_init)) : FnOk P w K mg base (L2.CX P w) 7 f fd ["self", "thing"] (PureE K (p_fdiv C) (q_fdiv C CL)) := by
  refine pureE_ok F sc_Family_floordiv (fun ds h => by
    rcases h with ⟨d, _, _, _, _, _, _, _, rfl, _⟩ | ⟨_, _, _, _, _, _, _, _, _, rfl, _⟩ <;> rfl) (by decide) fun cdv A outer s H E hr => ?_
  have hu1 := units1 hr
  have tk : L2.Takes (cxOf (L2.CX P w) P w K mg base N_Family_floordiv "Family.__floordiv__" (defScope s_Family_floordiv) f cdv A outer s H E) (fun cls d _ H => E cls d H) := takes_of rfl rfl rfl rfl
  refine ⟨_, (pss_cons (ps_expr (pe_cl c_ask_thing hr (by decide) (by rfl) (pa_cons (pv 1) (pa_cons (pe_fld (pv 0) rfl) pa_nil))))
    (pss_cons (ps_if (pt_cmpR (r := rInTD K) (op_inTD hu1) (pe_tup (pa_cons (pv 1) pa_nil)) (pe_fld (pv 0) rfl) rfl)
      (pss_one (ps_raise (by rfl) tk (pmk_exl (k := 0) xL.c (by decide) (by decide) (hr.mono (by decide)) (by rfl) xL.m xL.s (pa_cons (pv 1) (pa_cons pe_str pa_nil))))) pss_nil)
    (pss_one (ps_ret (pe_clI c_Family hr (by decide) (by rfl) (pa_cons (pe_fld (pv 0) rfl) (pa_cons (pe_cl c_lots_held hr (by decide) (by rfl) (pa_cons (pe_fld (pv 0) rfl) (pa_cons (pe_tup (pa_cons (pv 1) pa_nil)) pa_nil))) pa_nil))))))), ?_, ?_⟩
  · rintro ds d ⟨n, t, L, hi, g, ht, hne, rfl, rfl⟩ De o
    have n2 := hi.n2
    refine sd_seq (sd_drop (d := .non) (ep_callE (ea_cons (ep_var (i := 1) (d := iD t) rfl) (ea_cons (ep_fld (ep_var (i := 0) (d := famD C n L) rfl) fc.ob.cl fc.nt rfl) ea_nil)) ⟨t, n, ht, rfl, rfl⟩) (sd_go ?_))
    refine sd_seq (sd_if (b := decide ([t] ∈ L)) (et_test (ep_op (ep_tup (l := [iD t]) (ea_cons (ep_var (i := 1) (d := iD t) rfl) ea_nil)) (ep_fld (ep_var (i := 0) (d := famD C n L) rfl) fc.ob.cl fc.nl rfl) (r2_inTD (x := tD [t]) (l := L.map tD) (tD_cmp _) (lsD_cmp L).2 (by rw [mem_tD]; simp)))) (fun h => ?_) (fun h => sd_go ?_))
    · exact absurd (by simpa using h) hne
    · have g2 := KM.held_gf g hne
      refine sd_ret (ep_make (m := [iD n, tsD (KM.heldL t L)]) (ns := ["things", "lots"]) (ea_cons (ep_fld (ep_var (i := 0) (d := famD C n L) rfl) fc.ob.cl fc.nt rfl) (ea_cons (ep_call (d := tsD (KM.heldL t L)) (ea_cons (ep_fld (ep_var (i := 0) (d := famD C n L) rfl) fc.ob.cl fc.nl rfl) (ea_cons (ep_tup (l := [iD t]) (ea_cons (ep_var (i := 1) (d := iD t) rfl) ea_nil)) ea_nil)) ⟨L, t, hi.lots, by omega, hne, rfl, rfl⟩) ea_nil)) ⟨n, KM.heldL t L, tsD (KM.heldL t L), ?_, .inl rfl, rfl, rfl, by rw [KM.least_good g2.g]⟩) o.rt
      exact ⟨hi.n1, hi.n2, g2.ne, Nat.lt_of_le_of_lt (held_len t L) hi.len, g2.lne, g2.g.asc, g2.lt⟩
  · rintro ds C' x ⟨rfl, n, t, L, hi, ht, hin, rfl, rfl⟩ De o
    have n2 := hi.n2
    refine sd_seq (sd_drop (d := .non) (ep_callE (ea_cons (ep_var (i := 1) (d := iD t) rfl) (ea_cons (ep_fld (ep_var (i := 0) (d := famD C n L) rfl) fc.ob.cl fc.nt rfl) ea_nil)) ⟨t, n, ht, rfl, rfl⟩) (sd_go ?_))
    refine sd_seq (sd_if (b := decide ([t] ∈ L)) (et_test (ep_op (ep_tup (l := [iD t]) (ea_cons (ep_var (i := 1) (d := iD t) rfl) ea_nil)) (ep_fld (ep_var (i := 0) (d := famD C n L) rfl) fc.ob.cl fc.nl rfl) (r2_inTD (x := tD [t]) (l := L.map tD) (tD_cmp _) (lsD_cmp L).2 (by rw [mem_tD]; simp)))) (fun h => ?_) (fun h => ?_))
    · exact sd_raiseL (ea_cons (ep_var (i := 1) (d := iD t) rfl) (ea_cons ep_str ea_nil)) (by omega) (by decide) (wf_of o)
    · simp [hin] at h
end
end Y
set_option Elab.async false
set_option linter.all false
set_option autoImplicit false
set_option maxRecDepth 100000
set_option maxHeartbeats 4000000
namespace Y
open PySem L2
section
variable {P : Program} {w : World} {K : PySem.W.Frag} {mg : Str → Option Value} {base : Heap}
/-! families_for, raising -/
def q_fforE (C CF CZ : Addr) (ds : List D) (C' : Addr) (x : XF) : Prop := (∃ (n : Nat) (L : List (List Nat)) (s : D), q_flist C CF [s] C' x ∧ ds = [famD C n L, s]) ∨
  (C' = CZ ∧ ∃ (n : Nat) (L : List (List Nat)) (rows : Rws) (s : D), rows.length < 1000 ∧ rows.length ≠ n ∧ Seq s (fms C rows) ∧ ds = [famD C n L, s] ∧ x = xS (rows.length : Int))
theorem q_fforE_two {C CF CZ : Addr} {ds : List D} {C' : Addr} {x : XF} (h : q_fforE C CF CZ ds C' x) : ∃ a b, ds = [a, b] := by
  rcases h with ⟨_, _, _, _, rfl⟩ | ⟨_, _, _, _, _, _, _, _, rfl, _⟩ <;> exact ⟨_, _, rfl⟩
theorem q_fforE_len {C CF CZ : Addr} {ds : List D} {C' : Addr} {x : XF} (h : q_fforE C CF CZ ds C' x) : ds.length = 2 := by
  obtain ⟨a, b, rfl⟩ := q_fforE_two h
  rfl
theorem ok_families_forE {f C CF CZ fZ : Addr} {fd : FuncData} (F : Fun K "families_for" "families_for" s_families_for f fd) (T : Txt mg) (fc : FamC K mg C) (xZ : XcZ P K mg "OtherSize" "other size: " CZ fZ) (c_family_list : ClX P w K mg base 2 "family_list" (PureE K (p_flist C) (q_flist C CF))) :
    FnOk P w K mg base (L2.CX P w) 3 f fd ["family", "families"] (PureE K (p_ffor C) (q_fforE C CF CZ)) := by
  refine pureE_ok F sc_families_for (fun ds h => by
    rcases h with ⟨d, _, _, _, _, _, _, _, rfl, _⟩ | ⟨_, _, h⟩
    · rfl
    · exact q_fforE_len h) (by decide) fun cdv A outer s H E hr => ?_
  have tk : L2.Takes (cxOf (L2.CX P w) P w K mg base N_families_for "families_for" (defScope s_families_for) f cdv A outer s H E) (fun cls d _ H => E cls d H) := takes_of rfl rfl rfl rfl
  refine ⟨_, (pss_cons (ps_set (i := 2) sc_families_for.nd rfl (Or.inl rfl) (pe_clX c_family_list hr (by decide) (by rfl) tk (pa_cons (pv 1) pa_nil)))
    (pss_cons (ps_if (pt_cmpR op_ne (pe_callB (r := rLen K) call_lenY (by rfl) T.len PySem.boot_len (pa_cons (pv 2) pa_nil)) (pe_fld (pv 0) rfl) (nomark _))
      (pss_one (ps_raise (by rfl) tk (pmk_exz (k := 0) xZ.c (by decide) (hr.mono (by decide)) (by rfl) xZ.m xZ.s (pa_cons (pe_callB (r := rLen K) call_lenY (by rfl) T.len PySem.boot_len (pa_cons (pv 2) pa_nil)) pa_nil)))) pss_nil)
    (pss_one (ps_ret (pv 2))))), ?_, ?_⟩
  · rintro ds d ⟨n, L, rows, sq, hn, hl, hs, rfl, rfl⟩ De o
    refine sd_seq (sd_asg (d := .tup (fms C rows)) (ep_callES (ea_cons (ep_var rfl) ea_nil) ⟨rows, sq, by omega, hs, rfl, rfl⟩) (fms_im C rows) (sd_go ?_))
    refine sd_seq (sd_if (et_test (ep_op (ep_cb (ea_cons (ep_var (i := 2) (d := .tup (fms C rows)) rfl) ea_nil) rc_lenTn) (ep_fld (ep_var rfl) fc.ob.cl fc.nt rfl) r2_neN)) (fun h => ?_) (fun h => sd_go ?_))
    · rw [hl] at h
      simp at h
    · exact sd_ret (ep_var rfl) o.rt
  · rintro ds C' x (⟨n, L, sq, hq, rfl⟩ | ⟨rfl, n, L, rows, sq, hn, hl, hs, rfl, rfl⟩) De o
    · exact sd_seq (sd_asgR (er_callE (ea_cons (ep_var (i := 1) (d := sq) rfl) ea_nil) hq (wf_of o)))
    · refine sd_seq (sd_asg (d := .tup (fms C rows)) (ep_callES (ea_cons (ep_var rfl) ea_nil) ⟨rows, sq, by omega, hs, rfl, rfl⟩) (fms_im C rows) (sd_go ?_))
      refine sd_seq (sd_if (et_test (ep_op (ep_cb (ea_cons (ep_var (i := 2) (d := .tup (fms C rows)) rfl) ea_nil) rc_lenTn) (ep_fld (ep_var rfl) fc.ob.cl fc.nt rfl) r2_neN)) (fun h => ?_) (fun h => ?_))
      · exact sd_raiseZ (n := (rows.length : Int)) (ea_cons (ep_is (ep_cb (ea_cons (ep_var (i := 2) (d := .tup (fms C rows)) rfl) ea_nil) rc_lenTn) rfl) ea_nil) (by omega) (wf_of o)
      · simp [hl] at h
/-! Family.call, raising -/
def q_fcallE (C CN CF CZ : Addr) (ds : List D) (C' : Addr) (x : XF) : Prop := q_fforE C CF CZ ds C' x ∨ q_fcall C CN ds C' x
theorem ok_fcallE {f C CN CF CZ : Addr} {fd : FuncData} (F : Fun K "__call__" "Family.__call__" s_Family_call f fd) (T : Txt mg) (fc : FamC K mg C) (c_families_for : ClX P w K mg base 3 "families_for" (PureE K (p_ffor C) (q_fforE C CF CZ))) (c_ask_thingsE : ClX P w K mg base 2 "ask_things" (PureE K p_ask_things (q_athings CN)))
    (c_starts_of : Cl P w K mg base 1 "starts_of" (Pure K (p_starts C))) (c_Family : ClI P w K mg base 5 C "Family" (InitP K C p_init)) (c_lots_put : Cl P w K mg base 1 "lots_put" (Pure K p_put)) :
    FnOk P w K mg base (L2.CX P w) 7 f fd ["self", "families"] (PureE K (p_fcall C) (q_fcallE C CN CF CZ)) := by
  refine pureE_ok F sc_Family_call (fun ds h => by
    rcases h with ⟨d, _, _, _, _, _, _, rfl, _⟩ | ⟨_, _, h | ⟨_, _, _, _, _, _, _, _, _, rfl, _⟩⟩
    · rfl
    · exact q_fforE_len h
    · rfl) (by decide) fun cdv A outer s H E hr => ?_
  have tk : L2.Takes (cxOf (L2.CX P w) P w K mg base N_Family_call "Family.__call__" (defScope s_Family_call) f cdv A outer s H E) (fun cls d _ H => E cls d H) := takes_of rfl rfl rfl rfl
  have po : PassesOwn (model P w) (cxOf (L2.CX P w) P w K mg base N_Family_call "Family.__call__" (defScope s_Family_call) f cdv A outer s H E).A (cxOf (L2.CX P w) P w K mg base N_Family_call "Family.__call__" (defScope s_Family_call) f cdv A outer s H E).env (cxOf (L2.CX P w) P w K mg base N_Family_call "Family.__call__" (defScope s_Family_call) f cdv A outer s H E).xe := passes_of rfl
  refine ⟨_, (pss_cons (ps_set (i := 2) sc_Family_call.nd rfl (Or.inl rfl) (pe_clX c_families_for hr (by decide) (by rfl) tk (pa_cons (pv 0) (pa_cons (pv 1) pa_nil))))
    (pss_cons (ps_set (i := 3) sc_Family_call.nd rfl (Or.inl rfl) (pe_callB (r := rSum K) (cr_sum rfl) (by rfl) T.sum (by decide +kernel) (pa_cons (pe_lc (own := [("part", 4)]) (g := gName 4) rfl sc_Family_call.nd (pi_tup (pv 2)) (blkOk_by (N := N_Family_call) (sc := defScope s_Family_call) (by decide +kernel)) (fun _ _ _ _ _ => pg_name (i := 4) sc_Family_call.nd rfl (Or.inl rfl)) (fun _ _ _ _ _ => pts_nil) (fun _ _ _ _ _ => (pe_fldY (K := K) (pv 4) (by rfl) rfl))) pa_nil)))
    (pss_cons (ps_expr (pe_clX c_ask_thingsE hr (by decide) (by rfl) tk (pa_cons (pv 3) pa_nil)))
    (pss_cons (ps_set (i := 5) sc_Family_call.nd rfl (Or.inr rfl) (pe_cl c_starts_of hr (by decide) (by rfl) (pa_cons (pv 2) pa_nil)))
    (pss_cons (ps_set (i := 6) sc_Family_call.nd rfl (Or.inl rfl) (pe_lst pa_nil))
    (pss_cons (ps_for po rfl (pi_range1 (by rfl) T.range (pa_cons (pe_fld (pv 0) rfl) pa_nil)) (pg_name (i := 7) sc_Family_call.nd rfl (Or.inr rfl))
    (pss_one (ps_expr (pe_bm PySem.F.plainAttrs_list PySem.F.slot_list_append PySem.F.type_list_append mt_append (pv 6) (pa_cons (pe_lc (own := [("lot", 8)]) (g := gName 8) rfl sc_Family_call.nd (pi_tup (pe_fld (pe_ix (r := rIxT K) ix_tup (pv 2) (pv 7) (fun _ _ => rfl)) rfl)) (blkOk_by (N := N_Family_call) (sc := defScope s_Family_call) (by decide +kernel)) (fun _ _ _ _ _ => pg_name (i := 8) sc_Family_call.nd rfl (Or.inl rfl)) (fun _ _ _ _ _ => pts_nil)
      (fun _ _ _ _ _ => (pe_callTy (r := rTupOf K) call_tupY (by rfl) T.tuple (by decide +kernel) (pa_cons (pe_lc (own := [("f", 9)]) (g := gName 9) rfl sc_Family_call.nd (pi_tupY rfl (pv 8)) (blkOk_by (N := N_Family_call) (sc := relS (lcE (argE 0 (stE (at_ 0 (forB (at_ 5 (defBody s_Family_call))))))) (defScope s_Family_call)) (by decide +kernel)) (fun _ _ _ _ _ => pg_name (i := 9) sc_Family_call.nd rfl (Or.inl rfl)) (fun _ _ _ _ _ => pts_nil) (fun _ _ _ _ _ => (pe_op op_add (pv 9) (pe_ix (r := rIxT K) ix_tup (pv 5) (pv 7) (fun _ _ => rfl))))) pa_nil)))) pa_nil)))))
    (pss_one (ps_ret (pe_clI c_Family hr (by decide) (by rfl) (pa_cons (pv 3) (pa_cons (pe_cl c_lots_put hr (by decide) (by rfl) (pa_cons (pe_fld (pv 0) rfl) (pa_cons (pv 6) pa_nil))) pa_nil))))))))))), ?_, ?_⟩
  · rintro ds d ⟨n, L, rows, sq, hc, hs, rfl, rfl⟩ De o
    have hn3 := hc.n3
    refine sd_seq (sd_asg (d := .tup (fms C rows)) (ep_callES (ea_cons (ep_var (i := 0) (d := famD C n L) rfl) (ea_cons (ep_var (i := 1) (d := sq) rfl) ea_nil)) ⟨n, L, rows, sq, hc.n3, hc.len, hs, rfl, rfl⟩) (fms_im C rows) (sd_go ?_))
    have eSum : EP K [] H (fun _ => True) (tCB (rSum K) (tCons (tLc (iTup K (tVar 2)) (gName 4) tYes (tFld K (tVar 4) "things") [4]) tNil)) ((entry N_Family_call [famD C n L, sq]).set 2 (.val (.tup (fms C rows)))) (iD (sizeR rows)) := by
      refine ep_is (ep_cb (ea_cons (EF.p (ef_is (ef_lcT1 (c := fun (r : Nat × List (List Nat)) => famD C r.1 r.2) (ts := rows) (fun r => iD r.1) (ep_var (i := 2) rfl) (fun _ _ => famD_im _ _ _) (by have := hc.len; omega) (fun r hr' => ep_fld (ep_var (i := 4) (d := famD C r.1 r.2) rfl) fc.ob.cl fc.nt rfl) (fun _ _ => rfl)) (m := ((rows.map (·.1)).map fun (n : Nat) => (n : Int)).map D.int) (by rw [List.map_map, List.map_map]; rfl))) ea_nil) rc_sum) ?_
      rw [sum_iD]
      rfl
    refine sd_seq (sd_asg (d := iD (sizeR rows)) eSum rfl (sd_go ?_))
    refine sd_seq (sd_drop (d := .non) (ep_callES (ea_cons (ep_var (i := 3) (d := iD (sizeR rows)) rfl) ea_nil) ⟨sizeR rows, hc.s1, hc.s2, rfl, rfl⟩) (sd_go ?_))
    refine sd_seq (sd_asg (d := tD (KM.starts (rows.map (·.1)))) (ep_call (ea_cons (ep_var (i := 2) (d := .tup (fms C rows)) rfl) ea_nil) ⟨rows, by have := hc.len; omega, rfl, rfl⟩) (tD_im _) (sd_go ?_))
    refine sd_seq (sd_asgO (ef_lst ea_nil) rfl fun p => sd_go ?_)
    let g : Nat → List (List Nat) := fun e => KM.up ((KM.starts (rows.map (·.1))).getD e 0) ((rows.getD e (0, [])).2)
    have hsh : KM.shares rows = (List.range n).map g := by unfold KM.shares; rw [hc.len]
    refine sd_seq (sd_forRP (n := (n : Int)) (fun _ => True) (ea_cons (ep_fld (ep_var (i := 0) (d := famD C n L) rfl) fc.ob.cl fc.nt rfl) ea_nil) (by omega) (fun i => [.val (famD C n L), .val sq, .val (.tup (fms C rows)), .val (iD (sizeR rows)), .no, .val (tD (KM.starts (rows.map (·.1)))), .own p (((List.range i).map g).map lsD), .no, .no, .no]) rfl trivial (fun i hi _ => ?_) (fun _ => sd_go ?_))
    · have hi' : i < rows.length := by have := hc.len; omega
      have hin := hc.inn rows[i] (List.getElem_mem hi')
      have hrg : rows.getD i (0, []) = rows[i] := by simp [List.getD, List.getElem?_eq_getElem hi']
      have hsl : i < (KM.starts (rows.map (·.1))).length := by rw [KM.starts_len, List.length_map]; exact hi'
      generalize hst : KM.starts (rows.map (·.1)) = st at hsl
      have hsg : st.getD i 0 = st[i] := by simp [List.getD, List.getElem?_eq_getElem hsl]
      have hg : g i = rows[i].2.map fun l => l.map fun f => f + st[i] := by
        simp only [g]
        rw [hrg, hst, hsg]
        rfl
      refine sd_appC (p := p) (i := 6) (l := ((List.range i).map g).map lsD) (d := lsD (g i)) rfl (ec_new (ef_is (ef_lcT1 (j := 8) (c := tD) (ts := rows[i].2) (fun l => tD (l.map fun f => f + st[i])) (ep_fld (ep_op (ep_var (i := 2) (d := .tup (fms C rows)) rfl) (ep_var (i := 7) (d := iD i) rfl) (r2_ixT (atI_nat (d := famD C rows[i].1 rows[i].2) ?_))) fc.ob.cl fc.nl rfl) (fun _ _ => tD_im _) (by have := hin.1; omega) (fun l hl => ?_) (fun _ _ => tD_im _)) ?_) (imAll_tD _)) (by rw [List.length_map, List.length_map, List.length_range]; omega) (sd_lp trivial ?_)
      · unfold fms
        rw [List.getElem?_map, List.getElem?_eq_getElem hi']
        rfl
      · refine ep_is (ep_cb (ea_cons (EF.p (ef_lcT1 (j := 9) (c := iD) (ts := l) (fun f => iD (f + st[i])) (ep_is (ep_var (i := 8) (d := tD l) rfl) (tD_eq l)) (fun _ _ => rfl) (by have := hin.2 l hl; omega) (fun f hf => ep_is (ep_op (ep_var (i := 9) (d := iD f) rfl) (ep_op (ep_is (ep_var (i := 5) (d := tD st) rfl) (tD_eq st)) (ep_var (i := 7) (d := iD i) rfl) (r2_ixT (atI_nat (d := iD st[i]) ?_))) r2_int) (by unfold iD; rw [Int.natCast_add])) (fun _ _ => rfl))) ea_nil) rc_tupleL) ?_
        · rw [List.getElem?_map, List.getElem?_eq_getElem hsl]
          rfl
        · rw [tD_eq, List.map_map]
          rfl
      · rw [hg, List.map_map]
        rfl
      · rw [List.range_succ, List.map_append, List.map_append]
        exact .eq (.eq (.eq (.eq (.no (.eq (.eq (.no (.eq (.eq .nil)))))))))
    · have hn0 : ((n : Int)).toNat = n := by omega
      rw [hn0, ← hsh]
      refine sd_ret (ep_make (ea_cons (ep_var (i := 3) (d := iD (sizeR rows)) rfl) (ea_cons (ep_call (d := tsD (KM.srt (KM.putL L (KM.shares rows)))) (ea_cons (ep_fld (ep_var (i := 0) (d := famD C n L) rfl) fc.ob.cl fc.nl rfl) (ea_cons (ep_own (i := 6) rfl) ea_nil)) ⟨L, KM.shares rows, hc.put, rfl, rfl⟩) ea_nil)) ⟨sizeR rows, _, _, hc.out, .inl rfl, rfl, rfl, rfl⟩) o.rt
  · rintro ds C' x (h | ⟨rfl, n, L, rows, sq, hl, hn3, hbig, hs, rfl, rfl⟩) De o
    · obtain ⟨a, b, rfl⟩ := q_fforE_two h
      exact sd_seq (sd_asgR (er_callE (ea_cons (ep_var (i := 0) (d := a) rfl) (ea_cons (ep_var (i := 1) (d := b) rfl) ea_nil)) h (wf_of o)))
    refine sd_seq (sd_asg (d := .tup (fms C rows)) (ep_callES (ea_cons (ep_var (i := 0) (d := famD C n L) rfl) (ea_cons (ep_var (i := 1) (d := sq) rfl) ea_nil)) ⟨n, L, rows, sq, hn3, hl, hs, rfl, rfl⟩) (fms_im C rows) (sd_go ?_))
    have eSum : EP K [] H (fun _ => True) (tCB (rSum K) (tCons (tLc (iTup K (tVar 2)) (gName 4) tYes (tFld K (tVar 4) "things") [4]) tNil)) ((entry N_Family_call [famD C n L, sq]).set 2 (.val (.tup (fms C rows)))) (iD (sizeR rows)) := by
      refine ep_is (ep_cb (ea_cons (EF.p (ef_is (ef_lcT1 (c := fun (r : Nat × List (List Nat)) => famD C r.1 r.2) (ts := rows) (fun r => iD r.1) (ep_var (i := 2) rfl) (fun _ _ => famD_im _ _ _) (by omega) (fun r hr' => ep_fld (ep_var (i := 4) (d := famD C r.1 r.2) rfl) fc.ob.cl fc.nt rfl) (fun _ _ => rfl)) (m := ((rows.map (·.1)).map fun (n : Nat) => (n : Int)).map D.int) (by rw [List.map_map, List.map_map]; rfl))) ea_nil) rc_sum) ?_
      rw [sum_iD]
      rfl
    refine sd_seq (sd_asg (d := iD (sizeR rows)) eSum rfl (sd_go ?_))
    exact sd_seq (sd_dropR (er_callE (ea_cons (ep_var (i := 3) (d := iD (sizeR rows)) rfl) ea_nil) ⟨rfl, iD (sizeR rows), rfl, .inr ⟨_, rfl, hbig⟩, rfl, rfl⟩ (wf_of o)))
/-! put_in -/
abbrev s_put_in : Stmt := topS 39
abbrev N_put_in : List Str := ["family", "families"]
theorem sc_put_in : FnScope N_put_in ["family", "families"] (defScope s_put_in) := ⟨rfl, rfl, rfl, by decide +kernel, rfl, by decide +kernel, by decide +kernel⟩
theorem q_fcallE_two {C CN CF CZ : Addr} {ds : List D} {C' : Addr} {x : XF} (h : q_fcallE C CN CF CZ ds C' x) : ∃ n L b, ds = [famD C n L, b] := by
  rcases h with (⟨_, _, _, _, rfl⟩ | ⟨_, _, _, _, _, _, _, _, rfl, _⟩) | ⟨_, _, _, _, _, _, _, _, _, rfl, _⟩ <;> exact ⟨_, _, _, rfl⟩
theorem ok_put_in {f C CN CF CZ : Addr} {fd : FuncData} (F : Fun K "put_in" "put_in" s_put_in f fd) (T : Txt mg) (c_call : ClC P w K mg base 7 C (PureE K (p_fcall C) (q_fcallE C CN CF CZ))) :
    FnOk P w K mg base (L2.CX P w) 8 f fd ["family", "families"] (PureE K (p_fcall C) (q_fcallE C CN CF CZ)) := by
  refine pureE_ok F sc_put_in (fun ds h => by
    rcases h with ⟨d, _, _, _, _, _, _, rfl, _⟩ | ⟨_, _, h⟩
    · rfl
    · obtain ⟨_, _, _, rfl⟩ := q_fcallE_two h
      rfl) (by decide) fun cdv A outer s H E hr => ?_
  have tk : L2.Takes (cxOf (L2.CX P w) P w K mg base N_put_in "put_in" (defScope s_put_in) f cdv A outer s H E) (fun cls d _ H => E cls d H) := takes_of rfl rfl rfl rfl
  refine ⟨_, (pss_one (ps_ret (pe_clC c_call hr (by decide) tk (pv 0) (pa_cons (pv 1) pa_nil)))), ?_, ?_⟩
  · rintro ds d ⟨n, L, rows, sq, hc, hs, rfl, rfl⟩ De o
    exact sd_ret (ep_callO (ns := ["things", "lots"]) (l := [iD n, tsD L]) (ep_var (i := 0) rfl) (ea_cons (ep_var (i := 1) (d := sq) rfl) ea_nil) ⟨n, L, rows, sq, hc, hs, rfl, rfl⟩) o.rt
  · rintro ds C' x h De o
    obtain ⟨n, L, b, rfl⟩ := q_fcallE_two h
    exact sd_retR (er_callO (ns := ["things", "lots"]) (l := [iD n, tsD L]) (ep_var (i := 0) rfl) (ea_cons (ep_var (i := 1) (d := b) rfl) ea_nil) h (wf_of o))
/-! place_of -/
abbrev s_place_of : Stmt := topS 40
abbrev N_place_of : List Str := ["families", "e", "f", "found"]
theorem sc_place_of : FnScope N_place_of ["families", "e", "f"] (defScope s_place_of) := ⟨rfl, rfl, rfl, by decide +kernel, rfl, by decide +kernel, by decide +kernel⟩
def p_place (C : Addr) (ds : List D) (d : D) : Prop := ∃ (rows : Rws) (s : D) (e f : Nat), rows.length < 1000 ∧ Seq s (fms C rows) ∧ e < rows.length ∧ f < (KM.rw_ rows e).1 ∧ ds = [s, iD e, iD f] ∧ d = iD (KM.stt rows e + f)
def q_place (C CF CT : Addr) (ds : List D) (C' : Addr) (x : XF) : Prop := (∃ s a b : D, q_flist C CF [s] C' x ∧ ds = [s, a, b]) ∨
  (C' = CT ∧ ∃ (rows : Rws) (s a b : D), rows.length < 1000 ∧ Seq s (fms C rows) ∧ ds = [s, a, b] ∧ ((a.tyN.isSome = true ∧ a.fl = true ∧ isTh a rows.length = false ∧ x = xT a.v) ∨
    ∃ e : Nat, e < rows.length ∧ a = iD e ∧ b.tyN.isSome = true ∧ b.fl = true ∧ isTh b (KM.rw_ rows e).1 = false ∧ x = xT b.v))
theorem q_place_len {C CF CT : Addr} {ds : List D} {C' : Addr} {x : XF} (h : q_place C CF CT ds C' x) : ds.length = 3 := by
  rcases h with ⟨_, _, _, _, rfl⟩ | ⟨_, _, _, _, _, _, _, rfl, _⟩ <;> rfl
theorem ok_place_of {f C CF CT : Addr} {fd : FuncData} (F : Fun K "place_of" "place_of" s_place_of f fd) (T : Txt mg) (fc : FamC K mg C) (c_family_list : ClX P w K mg base 2 "family_list" (PureE K (p_flist C) (q_flist C CF)))
    (c_ask_thing : ClX P w K mg base 3 "ask_thing" (PureE K p_athing (q_athing CT))) (c_starts_of : Cl P w K mg base 1 "starts_of" (Pure K (p_starts C))) : FnOk P w K mg base (L2.CX P w) 4 f fd ["families", "e", "f"] (PureE K (p_place C) (q_place C CF CT)) := by
  refine pureE_ok F sc_place_of (fun ds h => by
    rcases h with ⟨d, _, _, _, _, _, _, _, _, rfl, _⟩ | ⟨_, _, h⟩
    · rfl
    · exact q_place_len h) (by decide) fun cdv A outer s H E hr => ?_
  have tk : L2.Takes (cxOf (L2.CX P w) P w K mg base N_place_of "place_of" (defScope s_place_of) f cdv A outer s H E) (fun cls d _ H => E cls d H) := takes_of rfl rfl rfl rfl
  refine ⟨_, (pss_cons (ps_set (i := 3) sc_place_of.nd rfl (Or.inl rfl) (pe_clX c_family_list hr (by decide) (by rfl) tk (pa_cons (pv 0) pa_nil)))
    (pss_cons (ps_expr (pe_clX c_ask_thing hr (by decide) (by rfl) tk (pa_cons (pv 1) (pa_cons (pe_callB (r := rLen K) call_lenY (by rfl) T.len PySem.boot_len (pa_cons (pv 3) pa_nil)) pa_nil))))
    (pss_cons (ps_expr (pe_clX c_ask_thing hr (by decide) (by rfl) tk (pa_cons (pv 2) (pa_cons (pe_fld (pe_ix (r := rIxT K) ix_tup (pv 3) (pv 1) (fun _ _ => rfl)) rfl) pa_nil))))
    (pss_one (ps_ret (pe_op op_add (pe_ix (r := rIxT K) ix_tup (pe_cl c_starts_of hr (by decide) (by rfl) (pa_cons (pv 3) pa_nil)) (pv 1) (fun _ _ => rfl)) (pv 2))))))), ?_, ?_⟩
  · rintro ds d ⟨rows, sq, e, ff, hz, hs, he, hf, rfl, rfl⟩ De o
    have eL : ∀ {E : List Slot}, E[3]? = some (.val (.tup (fms C rows))) → EP K [] H (fun _ => True) (tCB (rLen K) (tCons (tVar 3) tNil)) E (iD rows.length) := fun {E} h => ep_is (ep_cb (ea_cons (ep_var h) ea_nil) rc_lenTn) rfl
    have at1 : (fms C rows)[e]? = some (famD C (KM.rw_ rows e).1 (KM.rw_ rows e).2) := by
      rw [KM.rw_get he]
      unfold fms
      rw [List.getElem?_map, List.getElem?_eq_getElem he]
      rfl
    refine sd_seq (sd_asg (d := .tup (fms C rows)) (ep_callES (ea_cons (ep_var (i := 0) (d := sq) rfl) ea_nil) ⟨rows, sq, by omega, hs, rfl, rfl⟩) (fms_im C rows) (sd_go ?_))
    refine sd_seq (sd_drop (d := .non) (ep_callES (ea_cons (ep_var (i := 1) (d := iD e) rfl) (ea_cons (eL rfl) ea_nil)) ⟨e, rows.length, he, rfl, rfl⟩) (sd_go ?_))
    refine sd_seq (sd_drop (d := .non) (ep_callES (ea_cons (ep_var (i := 2) (d := iD ff) rfl) (ea_cons (ep_fld (ep_op (ep_var (i := 3) (d := .tup (fms C rows)) rfl) (ep_var (i := 1) (d := iD e) rfl) (r2_ixT (atI_nat at1))) fc.ob.cl fc.nt rfl) ea_nil)) ⟨ff, (KM.rw_ rows e).1, hf, rfl, rfl⟩) (sd_go ?_))
    have hsl : e < (KM.starts (rows.map (·.1))).length := by rw [KM.starts_len, List.length_map]; exact he
    have hst := KM.stt_get he
    refine sd_ret (ep_is (ep_op (ep_op (ep_is (ep_call (d := tD (KM.starts (rows.map (·.1)))) (ea_cons (ep_var (i := 3) (d := .tup (fms C rows)) rfl) ea_nil) ⟨rows, by omega, rfl, rfl⟩) (tD_eq _)) (ep_var (i := 1) (d := iD e) rfl) (r2_ixT (d := iD (KM.stt rows e)) (atI_nat ?_))) (ep_var (i := 2) (d := iD ff) rfl) r2_int) (by unfold iD; rw [Int.natCast_add])) o.rt
    rw [List.getElem?_map, List.getElem?_eq_getElem hsl, ← hst]
    simp [List.getD, List.getElem?_eq_getElem hsl]
  · rintro ds C' x (⟨sq, a, b, hq, rfl⟩ | ⟨rfl, rows, sq, a, b, hz, hs, rfl, hx⟩) De o
    · exact sd_seq (sd_asgR (er_callE (ea_cons (ep_var (i := 0) (d := sq) rfl) ea_nil) hq (wf_of o)))
    · have eL : ∀ {E : List Slot}, E[3]? = some (.val (.tup (fms C rows))) → EP K [] H (fun _ => True) (tCB (rLen K) (tCons (tVar 3) tNil)) E (iD rows.length) := fun {E} h => ep_is (ep_cb (ea_cons (ep_var h) ea_nil) rc_lenTn) rfl
      refine sd_seq (sd_asg (d := .tup (fms C rows)) (ep_callES (ea_cons (ep_var (i := 0) (d := sq) rfl) ea_nil) ⟨rows, sq, by omega, hs, rfl, rfl⟩) (fms_im C rows) (sd_go ?_))
      rcases hx with ⟨h1, h2, h3, rfl⟩ | ⟨e, he, rfl, h1, h2, h3, rfl⟩
      · exact sd_seq (sd_dropR (er_callE (ea_cons (ep_var (i := 1) (d := a) rfl) (ea_cons (eL rfl) ea_nil)) ⟨rfl, a, rows.length, h1, h2, h3, rfl, rfl⟩ (wf_of o)))
      · have at1 : (fms C rows)[e]? = some (famD C (KM.rw_ rows e).1 (KM.rw_ rows e).2) := by
          rw [KM.rw_get he]
          unfold fms
          rw [List.getElem?_map, List.getElem?_eq_getElem he]
          rfl
        refine sd_seq (sd_drop (d := .non) (ep_callES (ea_cons (ep_var (i := 1) (d := iD e) rfl) (ea_cons (eL rfl) ea_nil)) ⟨e, rows.length, he, rfl, rfl⟩) (sd_go ?_))
        exact sd_seq (sd_dropR (er_callE (ea_cons (ep_var (i := 2) (d := b) rfl) (ea_cons (ep_fld (ep_op (ep_var (i := 3) (d := .tup (fms C rows)) rfl) (ep_var (i := 1) (d := iD e) rfl) (r2_ixT (atI_nat at1))) fc.ob.cl fc.nt rfl) ea_nil)) ⟨rfl, b, (KM.rw_ rows e).1, h1, h2, h3, rfl, rfl⟩ (wf_of o)))
end
end Y
set_option Elab.async false
set_option linter.all false
set_option autoImplicit false
set_option maxRecDepth 100000
set_option maxHeartbeats 4000000
namespace Y
open PySem L2
section
variable {K : PySem.W.Frag}
theorem r2_ninS {a : Nat} {s : D} {f : List Nat} (hs : Seq s (f.map iD)) : R2d K (rIn K true) (iD a) s (.bl (!decide (a ∈ f))) := by
  have h := r2_ninI (K := K) (i := (a : Int)) (ns := zs f) (y := s) (by
    have e0 : f.map iD = (zs f).map D.int := by unfold zs; rw [List.map_map]; rfl
    rw [← e0]
    exact hs)
  have e : decide ((a : Int) ∈ zs f) = decide (a ∈ f) := by
    rw [Bool.eq_iff_iff, decide_eq_true_iff, decide_eq_true_iff]
    unfold zs
    constructor
    · intro h
      obtain ⟨y, h1, h2⟩ := List.mem_map.mp h
      have : y = a := by omega
      rw [← this]; exact h1
    · intro h
      exact List.mem_map.mpr ⟨a, h, rfl⟩
  rw [e] at h
  exact h
theorem atNm {names : List Nat} {t : Nat} (h : t < names.length) : atI (names.map iD) (t : Int) = some (iD (names.getD t 0)) := atI_nat (by rw [List.getElem?_map, List.getElem?_eq_getElem h]; simp [List.getD, List.getElem?_eq_getElem h])
theorem nD_cmp (l : List Nat) : Cmpb (nD l) := (cmpb_list fun d hd => by obtain ⟨x, _, rfl⟩ := List.mem_map.mp hd; exact ⟨rfl, rfl, by show 0 ≤ 50; decide⟩).1
end
section
variable {P : Program} {w : World} {K : PySem.W.Frag} {mg : Str → Option Value} {base : Heap}
/-! inside, of a list too -/
def p_insideS (ds : List D) (d : D) : Prop := ∃ (a b : List Nat) (s : D), a.length < 20000 ∧ Seq s (b.map iD) ∧ ds = [tD a, s] ∧ d = .bl (KM.inside a b)
theorem ok_law_insideS {f : Addr} {fd : FuncData} (F : Fun K "_law_inside" "_law_inside" s_law_inside f fd) (T : Txt mg) : FnOk P w K mg base CX0 1 f fd ["_law_one", "_law_other"] (Pure K p_insideS) := by
  refine pure_ok F sc_law_inside (fun ds d h => by obtain ⟨_, _, _, _, _, rfl, _⟩ := h; rfl) (by decide) fun cdv A outer s H E hr => ?_
  refine ⟨_, (pss_one (ps_ret (pe_cmpR op_eq (pe_callB call_len_seq (by rfl) T.len PySem.boot_len (pa_cons (pe_lc (own := [("_law_thing", 2)]) (g := gName 2) rfl sc_law_inside.nd (pi_tup (pv 0)) (blkOk_by (N := N_law_inside) (sc := defScope s_law_inside) (by decide +kernel)) (fun _ _ _ _ _ => pg_name (i := 2) sc_law_inside.nd rfl (Or.inl rfl)) (fun _ _ _ _ _ => (pts_one (pt_cmpR (r := rIn K true) op_notIn_seq (pv 2) (pv 1) rfl))) (fun _ _ _ _ _ => (pv 2))) pa_nil)) pe_int (nomark _)))), ?_⟩
  rintro ds d ⟨a, b, sq, hz, hs, rfl, rfl⟩ De o
  exact sd_ret (ep_op (ep_cb (ea_cons (EF.p (ef_lcT (c := iD) (ts := a) (fun x => !decide (x ∈ b)) iD (ep_var (tD_at rfl)) (fun _ _ => rfl) (by omega) (fun x _ => et_test (ep_op (ep_var (d := iD x) rfl) (ep_var (d := sq) rfl) (r2_ninS hs))) (fun x _ _ => ep_var rfl) (fun _ _ _ => rfl))) ea_nil) rc_lenLn) ep_n0 r2_eqN) o.rt
/-! holds, of a list too -/
def p_holdsS (ds : List D) (d : D) : Prop := ∃ (ls : List (List Nat)) (t : List Nat) (s : D), LL ls ∧ Seq s (t.map iD) ∧ ds = [lsD ls, s] ∧ d = .bl (KM.holds ls t)
theorem ok_law_holdsS {f : Addr} {fd : FuncData} (F : Fun K "_law_holds" "_law_holds" s_law_holds f fd) (T : Txt mg) (c_law_inside : Cl P w K mg base 1 "_law_inside" (Pure K p_insideS)) : FnOk P w K mg base CX0 2 f fd ["_law_lots", "_law_those"] (Pure K p_holdsS) := by
  refine pure_ok F sc_law_holds (fun ds d h => by obtain ⟨_, _, _, _, _, rfl, _⟩ := h; rfl) (by decide) fun cdv A outer s H E hr => ?_
  refine ⟨_, (pss_cons (ps_for PassesOwn.never rfl (pi_list (pv 0)) (pg_name (i := 2) sc_law_holds.nd rfl (Or.inl rfl))
    (pss_one (ps_if (pt_val (pe_cl c_law_inside hr (by decide) (by rfl) (pa_cons (pv 2) (pa_cons (pv 1) pa_nil)))) (pss_one (ps_ret pe_bl)) pss_nil)))
    (pss_one (ps_ret pe_bl))), ?_⟩
  rintro ds d ⟨ls, t, sq, hL, hs, rfl, rfl⟩ De o
  refine sd_seq (sd_forLP (c := tD) (ts := ls) (fun i => ∀ l ∈ ls.take i, KM.inside l t = false) (ec_var rfl) (fun _ => [.val (lsD ls), .val sq, .no]) rfl (by simp) (fun Z' i lot hlot hp => ?_) (fun hp => sd_go ?_))
  · refine sd_if (et_B (ep_call (ea_cons (ep_var rfl) (ea_cons (ep_var rfl) ea_nil)) ⟨lot, t, sq, (hL.sm lot (List.mem_of_getElem? hlot)).len, hs, rfl, rfl⟩)) (fun h => ?_) (fun h => ?_)
    · have e : KM.holds ls t = true := List.any_eq_true.mpr ⟨lot, List.mem_of_getElem? hlot, h⟩
      rw [e] at o
      exact sd_ret ep_bl o.rt
    · refine sd_lp (fun l hl => ?_) (.eq (.eq (.no .nil)))
      rw [take_step hlot] at hl
      rcases List.mem_append.mp hl with hl | hl
      · exact hp l hl
      · have : l = lot := by simpa using hl
        rw [this]; exact h
  · have e : KM.holds ls t = false := by
      rw [List.take_length] at hp
      rw [← Bool.not_eq_true]
      intro z
      obtain ⟨l, h1, h2⟩ := List.any_eq_true.mp z
      rw [hp l h1] at h2
      cases h2
    rw [e] at o
    exact sd_ret ep_bl o.rt
end
end Y
set_option Elab.async false
set_option linter.all false
set_option autoImplicit false
set_option maxRecDepth 100000
set_option maxHeartbeats 4000000
namespace Y
open PySem L2
/-! what the law may ask of its families -/
theorem gf_in {n : Nat} {L : List (List Nat)} (g : KM.GF n L) (hn : n ≤ 14) : InOk n L := ⟨g.n1, by omega, g.ne, by
  have := KM.gf_len g
  have h2 : 2 ^ n ≤ 2 ^ 14 := Nat.pow_le_pow_right (by decide) hn
  have h3 : (2 : Nat) ^ 14 = 16384 := by decide
  omega, g.lne, g.g.asc, g.lt⟩
theorem gf_kept {n : Nat} {L : List (List Nat)} (g : KM.GF n L) (hn : n ≤ 14) (i : Nat) : (keptAt L i).length < 20000 := by
  have h1 := KM.kept_len g.g.asc g.lt i
  have h2 : 2 ^ n ≤ 2 ^ 14 := Nat.pow_le_pow_right (by decide) hn
  have h3 : (2 : Nat) ^ 14 = 16384 := by decide
  unfold keptAt
  omega
theorem gf_inv {n : Nat} {L : List (List Nat)} (g : KM.GF n L) (hn : n ≤ 14) : InvOk n L := ⟨gf_in g hn, gf_kept g hn, gf_in (KM.blocker_gf g) hn⟩
theorem gf_least {n : Nat} {L : List (List Nat)} (g : KM.GF n L) : KM.leastLots L = L := KM.least_good g.g
theorem InOk.LL {n : Nat} {L : List (List Nat)} (h : InOk n L) : LL L := ⟨h.len, h.lots.sm⟩
theorem mg_eq {n w : Nat} {names : List Nat} {L : List (List Nat)} (hN : KM.Nms n w names) (g : KM.GF n L) : KM.leastLots (L.map (KM.nm names)) = KM.mg names L := KM.least_eq (KM.mg_in hN g).1
section
variable {P : Program} {w : World} {K : PySem.W.Frag} {mg : Str → Option Value} {base : Heap}
end
end Y
set_option Elab.async false
set_option linter.all false
set_option autoImplicit false
set_option maxRecDepth 100000
set_option maxHeartbeats 4000000
namespace Y
open PySem L2
section
variable {K : PySem.W.Frag} {H : Hp} {Z : Hp → Prop} {E : List Slot} {De : Ends}
/-- except C as n: word = (a0, n.f) -/
theorem wx_word {i j : Nat} {a0 f : Str} {C : Addr} {v : V} {dv : D} (hv : ∀ H, Is K H v dv) (im : dv.im = true) (hij : i ≠ j) (hi : i < E.length) (k : SD K [] H Z tNext De ((E.set j (.val (.tup [.str a0, dv]))).set i .no)) :
    ∀ σ H', Env K [] H Z E σ H' → ∀ d, H' d = some (.xd [(f, v)]) → ∀ a, H' a = none → tAsg (tTup (tCons (tC (.str a0)) (tCons (tXf a (.ref C) (some d) C f (tVar i)) tNil))) (gName j) (unb De i) (σ.set i (some (.ref a))) H' := fun σ H' env d hd a na => by
  have hlen : σ.length = E.length := env.len
  have h5 : (σ.set i (some (V.ref a)))[i]? = some (some (V.ref a)) := List.getElem?_set_self (by rw [hlen]; exact hi)
  refine ⟨_, h5, rfl, rfl, d, [(f, v)], v, rfl, hd, by rw [L2.lookup_put, if_pos rfl], by simp [sizeLine_eq], fun p np' => ?_⟩
  have hs : Is K (upd H' p (.tup [.str a0, v])) (.ref p) (.tup [.str a0, dv]) := .tup (SqT.of upd_same) (.cons (.str _) (.cons (hv _) .nil))
  have e2 := ((env.ext (Ex.new np')).set (i := j) hs (by show (true && (dv.im && true)) = true; rw [im]; rfl)).setNo i
  have es : ((σ.set i (some (V.ref a))).set j (some (V.ref p))).set i none = (σ.set j (some (V.ref p))).set i none := by
    rw [List.set_comm _ _ hij, List.set_set]
  show De.nx (((σ.set i (some (V.ref a))).set j (some (V.ref p))).set i none) _
  rw [es]
  exact k _ _ e2
end
end Y
set_option Elab.async false
set_option linter.all false
set_option autoImplicit false
set_option maxRecDepth 100000
set_option maxHeartbeats 1000000
/-! A call that is not shown some lists: they stay, and what comes back stands apart from them. -/
namespace Y
open PySem L2
/-- H with its lists at O as in H0 -/
def back (O : List Addr) (H0 H : Hp) : Hp := fun a => if a ∈ O then H0 a else H a
section
variable {P : Program} {w : World} {K : PySem.W.Frag} {mg : Str → Option Value} {base : Heap} {k : Nat} {f : Addr} {fd : FuncData} {ps : List Str} {sp : Sp}
theorem hid_in {O : List Addr} {H : Hp} {a : Addr} (h : a ∈ O) : hid O H a = none := by simp [hid, h]
theorem obj_hid {O : List Addr} {H : Hp} {h : Heap} {a : Addr} {o : HO} (hO : Lsts O H) (x : ObjOk P w H h a o) : ObjOk P w (hid O H) h a o :=
  x.stay (fun _ _ _ q => q) (fun b q => by rw [hid_at fun m => by obtain ⟨xs, e⟩ := hO b m; rw [e] at q; cases q]; exact q) (fun b xs q => by rw [hid_at fun m => by obtain ⟨ys, e⟩ := hO b m; rw [e] at q; cases q]; exact q)
theorem FnOk.framed (F : FnOk P w K mg base CX0 k f fd ps sp) : FnOk P w K mg base CX0 k f fd ps (fun vs H Q E => ∃ O : List Addr, Lsts O H ∧ sp vs (hid O H) (fun v H' => (∀ a ∈ O, H' a = none) → Q v (back O H H')) E) := by
  refine ⟨fun vs H Q E ⟨O, _, h⟩ => F.len _ _ _ _ h, fun A outer s H args us vs Q E hr e0 hb r ⟨O, hO, h⟩ => ?_⟩
  have e1 : Env0 P w K mg base A outer s (hid O H) := ⟨e0.frames, e0.mod, fun b o e => ⟨(e0.bs b o e).1, by unfold Y.hid; split; rfl; exact (e0.bs b o e).2⟩, e0.bsz, e0.funs, fun b hb => by unfold Y.hid; split; rfl; exact e0.frf b hb, fun a o q => obj_hid hO (e0.hok a o (hid_some q).2), e0.bare⟩
  refine codeAny_mono (F.run A outer s (hid O H) args us vs _ E hr e1 hb r h) fun r s' hq => ?_
  cases r with
  | error e => exact hq
  | ok fl =>
    cases fl with
    | next => exact hq
    | brk => exact hq
    | cont => exact hq
    | ret u =>
      obtain ⟨v, H', h1, h2, un, hk, rv, q⟩ := hq
      have lst : ∀ a ∈ O, ∃ o, s.heap.get? a = some o := fun a ha => by
        obtain ⟨xs, e⟩ := hO a ha
        obtain ⟨_, _, _, _, z⟩ := (e0.hok a _ e : ObjOk P w H s.heap a (.lst xs))
        exact ⟨_, z⟩
      have gone : ∀ a ∈ O, H' a = none := fun a ha => by
        obtain ⟨o, ho⟩ := lst a ha
        exact un.free a o ho (hid_in ha) (by simp)
      have bk : ∀ {a : Addr}, a ∉ O → back O H H' a = H' a := fun {a} h => by unfold back; rw [if_neg h]
      have bi : ∀ {a : Addr}, a ∈ O → back O H H' a = H a := fun {a} h => by unfold back; rw [if_pos h]
      have nO : ∀ {a : Addr} {o : HO}, H a = some o → (∀ xs, o ≠ .lst xs) → a ∉ O := fun {a o} e ho m => by
        obtain ⟨xs, q⟩ := hO a m
        rw [e] at q
        exact ho xs (Option.some.inj q)
      have hN : ∀ {b : Addr}, H b = none → hid O H b = none := fun {b} n => by unfold Y.hid; split; rfl; exact n
      refine ⟨v, back O H H', h1, h2, ⟨fun b o e n => un.keep b o e (hN n), fun b o e n => un.slot b o e (hN n), fun b o e n hx => ?_, un.there, fun b xs e => ?_, fun b o u e => ?_, fun b xs e => ?_⟩, fun a o e => ?_, rv, q gone⟩
      · have nb : b ∉ O := fun m => by obtain ⟨xs, q⟩ := hO b m; rw [n] at q; cases q
        rw [bk nb]
        exact un.free b o e (hN n) hx
      · have nb := nO e fun _ z => by cases z
        rw [bk nb]
        exact un.tups b xs (by rw [hid_at nb]; exact e)
      · have nb := nO e fun _ z => by cases z
        rw [bk nb]
        exact un.frzs b o u (by rw [hid_at nb]; exact e)
      · have nb := nO e fun _ z => by cases z
        rw [bk nb]
        exact un.tbls b xs (by rw [hid_at nb]; exact e)
      · by_cases ha : a ∈ O
        · rw [bi ha] at e
          obtain ⟨xs, q⟩ := hO a ha
          rw [e] at q
          cases q
          obtain ⟨z, its, n, rv', eh⟩ := (e0.hok a _ e : ObjOk P w H s.heap a (.lst xs))
          exact ⟨z, its, n, rv', un.keep a _ eh (hid_in ha) (fun m => by have := e0.frf a m; rw [this] at e; cases e) (by simp)⟩
        · rw [bk ha] at e
          have nb : ∀ {b : Addr} {o : HO}, H' b = some o → b ∉ O := fun {b o} q m => by rw [gone b m] at q; cases q
          exact (hk a o e).stay (fun _ _ _ q => q) (fun b q => by rw [bk (nb q)]; exact q) (fun b xs q => by rw [bk (nb q)]; exact q)
theorem back_ex {O : List Addr} {H H' : Hp} (e : Ex (hid O H) H') : Ex H (back O H H') := fun a o h => by
  unfold back
  split
  · exact h
  · rename_i n
    exact e a o (by rw [hid_at n]; exact h)
theorem back_hid {O : List Addr} {H H' : Hp} (g : ∀ a ∈ O, H' a = none) : Ex H' (hid O (back O H H')) := fun a o h => by
  have n : a ∉ O := fun m => by rw [g a m] at h; cases h
  rw [hid_at n]
  unfold back
  rw [if_neg n]
  exact h
/-- the promise: from data apart from the lists at O a datum apart from them -/
def PureA (K : PySem.W.Frag) (pre : List D → D → Prop) : Sp := fun vs H Q _ => ∃ (O : List Addr) (ds : List D) (d : D), Lsts O H ∧ IsAll K (hid O H) vs ds ∧ pre ds d ∧ ∀ v H', Ex H H' → Is K (hid O H') v d → Q v H'
theorem FnOk.apart {pre : List D → D → Prop} (F : FnOk P w K mg base CX0 k f fd ps (Pure K pre)) : FnOk P w K mg base CX0 k f fd ps (PureA K pre) :=
  (FnOk.framed F).imp fun vs H Q E ⟨O, ds, d, hO, h1, h2, h3⟩ => ⟨O, hO, ds, d, h1, h2, fun v H' e i g => h3 v _ (back_ex e) (i.mono (back_hid g))⟩
/-- a def that draws and takes nothing else: what comes back stands apart from all lists that there were -/
def DrawA (K : PySem.W.Frag) (pre : List D → D → Prop) : Sp := fun vs H Q _ => ∃ p O ns, vs = [.ref p] ∧ H p = some (iv ns) ∧ p ∉ O ∧ Lsts O H ∧ ∀ v H' d ns', Drw H H' p → H' p = some (iv ns') → Is K (hid (p :: O) H') v d → pre [] d → Q v H'
theorem FnOk.drawA {ok : List D → Prop} {pre : List D → D → Prop} (hok : ok []) (F : FnOk P w K mg base CX0 k f fd ps (DrawP K ok pre)) : FnOk P w K mg base CX0 k f fd ps (DrawA K pre) :=
  (FnOk.framed F).imp fun vs H Q E ⟨p, O, ns, ev, hp, np, hO, h3⟩ => ⟨O, hO, p, [], [], ns, ev, by rw [hid_at np]; exact hp, .nil, hok, fun v H' d ns' dw hp' hi hpre g => h3 v _ d ns' (fun a o n h => by
    unfold back
    split
    · exact h
    · rename_i m
      exact dw a o n (by rw [hid_at m]; exact h)) (by unfold back; rw [if_neg np]; exact hp') (hi.mono fun a o h => by
      obtain ⟨h1, h2⟩ := hid_some h
      have n : a ∉ O := fun m => by rw [g a m] at h2; cases h2
      rw [hid_at (by intro z; rcases List.mem_cons.mp z with z | z; exact h1 (by simp [z]); exact n z)]
      unfold back
      rw [if_neg n]
      exact h2) hpre⟩
end
section
variable {K : PySem.W.Frag} {B : List Addr} {H0 : Hp} {Z : Hp → Prop} {E : List Slot} {ea : TA} {d : D} {l : List D}
theorem ec_callA {pre : List D → D → Prop} {ex : XK} (h : EAC K B H0 Z ea E l) (hp : pre l d) : EC K B H0 Z (tCall (PureA K pre) [] ex ea) E d := fun σ H e Q q =>
  h σ H e _ fun vs H1 e1 h1 => ⟨ows E, l, d, (e.ext e1).lsts, by rw [List.append_nil]; exact h1, hp, fun v H2 e2 h2 => q v H2 (e1.trans e2) h2⟩
end
end Y
set_option Elab.async false
set_option linter.all false
set_option autoImplicit false
set_option maxRecDepth 100000
set_option maxHeartbeats 4000000
namespace Y
open PySem L2
/-- [n, lots] of at most four things -/
def Fam4 (d : D) : Prop := ∃ (n : Nat) (ls : List (List Nat)), KM.GF n ls ∧ n ≤ 4 ∧ d = famL n ls
def p_fam4 (_ : List D) (d : D) : Prop := Fam4 d
section
variable {P : Program} {w : World} {K : PySem.W.Frag} {mg : Str → Option Value} {base : Heap}
theorem ok_law_small4 {f : Addr} {fd : FuncData} (F : Fun K "_law_small" "_law_small" s_law_small f fd) (T : Txt mg) (c_law_pick : Cl P w K mg base 1 "_law_pick" (PickP K)) (c_law_sized : Cl P w K mg base 2 "_law_sized" (Fresh K p_law_sized)) (c_law_mixed_lots : Cl P w K mg base 3 "_law_mixed_lots" (DrawP K ok_mix p_mixed))
    (c_law_fan : Cl P w K mg base 1 "_law_fan" (Fresh K p_law_fan)) (c_law_chosen : Cl P w K mg base 2 "_law_chosen" (DrawP K ok_ch p_chosen)) : FnOk P w K mg base CX0 4 f fd ["_law_draws_here"] (DrawP K ok_0 p_fam4) := by
  refine draw_ok F sc_law_small (fun ds h => by cases h; rfl) (by decide) fun cdv A outer s H E hr => ?_
  have hu := hr.units
  refine ⟨_, (pss_cons (ps_set (i := 1) sc_law_small.nd rfl (Or.inl rfl) (pe_cl c_law_pick hr (by decide) (by rfl) (pa_cons (pv 0) (pa_cons pe_int pa_nil))))
    (pss_cons (ps_if (pt_cmpR (r := rIn K false) op_in_seq (pv 1) (pe_tup (pa_cons pe_int (pa_cons pe_int pa_nil))) rfl) (pss_one (ps_ret (pe_lst (pa_cons pe_int (pa_cons (pe_cl c_law_sized hr (by decide) (by rfl) (pa_cons pe_int (pa_cons pe_int pa_nil))) pa_nil))))) pss_nil)
    (pss_cons (ps_if (pt_cmpR op_eq (pv 1) pe_int (nomark _)) (pss_cons (ps_set (i := 2) sc_law_small.nd rfl (Or.inl rfl) (pe_op op_add pe_int (pe_cl c_law_pick hr (by decide) (by rfl) (pa_cons (pv 0) (pa_cons pe_int pa_nil)))))
    (pss_one (ps_ret (pe_lst (pa_cons (pv 2) (pa_cons (pe_cl c_law_mixed_lots hr (by decide) (by rfl) (pa_cons (pv 0) (pa_cons (pv 2) pa_nil))) pa_nil)))))) pss_nil)
    (pss_cons (ps_if (pt_cmpR op_eq (pv 1) pe_int (nomark _)) (pss_one (ps_ret (pe_lst (pa_cons pe_int (pa_cons (pe_callB (r := rSortY K) (cr_sortY hu) (by rfl) T.sorted (by decide +kernel) (pa_cons (pe_lst (pa_cons (pe_tup (pa_cons pe_int (pa_cons pe_int pa_nil))) (pa_cons (pe_tup (pa_cons pe_int (pa_cons pe_int pa_nil))) (pa_cons (pe_tup (pa_cons pe_int (pa_cons pe_int pa_nil))) (pa_cons (pe_tup (pa_cons pe_int (pa_cons pe_int pa_nil))) pa_nil))))) pa_nil)) pa_nil))))) pss_nil)
    (pss_cons (ps_if (pt_cmpR op_eq (pv 1) pe_int (nomark _)) (pss_one (ps_ret (pe_lst (pa_cons pe_int (pa_cons (pe_cl c_law_fan hr (by decide) (by rfl) (pa_cons pe_int pa_nil)) pa_nil))))) pss_nil)
    (pss_cons (ps_if (pt_cmpR op_eq (pv 1) pe_int (nomark _)) (pss_one (ps_ret (pe_lst (pa_cons pe_int (pa_cons (pe_cl c_law_sized hr (by decide) (by rfl) (pa_cons pe_int (pa_cons (pe_op op_add pe_int (pe_cl c_law_pick hr (by decide) (by rfl) (pa_cons (pv 0) (pa_cons pe_int pa_nil)))) pa_nil))) pa_nil))))) pss_nil)
    (pss_cons (ps_if (pt_cmpR op_eq (pv 1) pe_int (nomark _)) (pss_one (ps_ret (pe_lst (pa_cons pe_int (pa_cons (pe_cl c_law_chosen hr (by decide) (by rfl) (pa_cons (pv 0) (pa_cons (pe_cl c_law_sized hr (by decide) (by rfl) (pa_cons pe_int (pa_cons pe_int pa_nil))) (pa_cons pe_int pa_nil)))) pa_nil))))) pss_nil)
    (pss_one (ps_ret (pe_lst (pa_cons (pe_op op_add pe_int (pe_cl c_law_pick hr (by decide) (by rfl) (pa_cons (pv 0) (pa_cons pe_int pa_nil)))) (pa_cons (pe_lst (pa_cons (pe_tup (pa_cons pe_int pa_nil)) pa_nil)) pa_nil)))))))))))), ?_⟩
  rintro ds p rfl De o _ ns
  have hd0 : DS (fun ns => [dr p ns, .no, .no]) 0 p := ⟨fun _ => rfl, fun _ _ => rfl⟩
  refine sd_seq (sd_asgN (S := fun ns => [dr p ns, .no, .no]) hd0 (en_pick (b := 8) hd0 (fun _ => ec_int) (by decide)) (fun d ns hdp => sd_go ?_) ns)
  obtain ⟨x, hx, rfl⟩ := hdp
  have hd : DS (fun ns => [dr p ns, .val (iD x), .no]) 0 p := ⟨fun _ => rfl, fun _ _ => rfl⟩
  have ho : ∀ ns, ows ((fun ns => [dr p ns, .val (iD x), .no]) ns) = [p] := fun _ => rfl
  have sized : ∀ (n k : Nat) {Z : Hp → Prop} {E : List Slot}, n ≤ 12 → 1 ≤ k → EC K [p] H Z (tCall (Fresh K p_law_sized) [] E0 (tCons (tC (.int n)) (tCons (tC (.int k)) tNil))) E (lsD (KM.sized n k)) := fun n k {Z E} hn hk =>
    ec_new (ef_call (ea_cons ep_int (ea_cons ep_int ea_nil)) ⟨n, k, hn, hk, rfl, rfl⟩) (imAll_tD _)
  have tup : ∀ (a b : Nat) {Z : Hp → Prop} {E : List Slot}, EP K [p] H Z (tTup (tCons (tC (.int a)) (tCons (tC (.int b)) tNil))) E (tD [a, b]) := fun a b {Z E} => ep_tup (ea_cons ep_int (ea_cons ep_int ea_nil)) (by simp [zs])
  refine sd_seq (sd_if (et_in2 (k1 := 0) (k2 := 5) rfl rfl rfl) (fun _ => ?_) (fun _ => sd_go ?_))
  · exact sd_retD (S := fun ns => [dr p ns, .val (iD x), .no]) hd (ec_fam (n := 3) ec_int (sized 3 2 (by decide) (by decide))) o ⟨3, _, KM.sized_gf (by decide) (by decide), by decide, rfl⟩
  refine sd_seq (sd_if (et_eqN (k := 1) rfl rfl) (fun _ => ?_) (fun _ => sd_go ?_))
  · refine sd_seq (sd_asgN (S := fun ns => [dr p ns, .val (iD x), .no]) hd (en_op (P1 := fun d => d = iD 3) (P2 := fun _ d => ∃ x, x < 2 ∧ d = iD x) (P := fun d => ∃ n, 3 ≤ n ∧ n ≤ 4 ∧ d = iD n) hd (en_ec (d := iD 3) (fun _ => ec_int) hd rfl) (fun _ _ => en_pick (b := 2) hd (fun _ => ec_int) (by decide)) (fun a b h1 h2 => by
      obtain ⟨c, hc, rfl⟩ := h2
      subst h1
      exact ⟨_, r2_int (g := fun i j => i + j), rfl, 3 + c, by omega, by omega, by show D.int ((3 : Int) + (c : Int)) = D.int ((3 + c : Nat) : Int); congr 1⟩)) (fun d ns hdp => sd_go ?_) ns)
    obtain ⟨n, hn1, hn2, rfl⟩ := hdp
    have hd2 : DS (fun ns => [dr p ns, .val (iD x), .val (iD n)]) 0 p := ⟨fun _ => rfl, fun _ _ => rfl⟩
    refine sd_retDN (S := fun ns => [dr p ns, .val (iD x), .val (iD n)]) (P := Fam4) hd2 (en_fam (PA := fun d => d = iD n) (PB := fun _ d => ∃ fs, fs ≠ [] ∧ (∀ l ∈ fs, Lot1 n l) ∧ d = lsD (KM.leastL fs)) hd2 (en_ec (d := iD n) (fun _ => ec_var rfl) hd2 rfl) (fun _ _ => en_draw hd2 (fun _ => eac_cons (ec_var (d := iD n) rfl) eac_nil) ⟨n, by omega, by omega, rfl⟩ (fun d h => h n rfl) (.inr fun _ => rfl))
      (fun d d' h1 h2 => ?_)) o (fun d h => h) ns
    obtain ⟨fs, f1, f2, rfl⟩ := h2
    subst h1
    exact ⟨n, _, KM.least_gf (by omega) f1 (fun l hl => (f2 l hl).asc) (fun l hl => (f2 l hl).ne) (fun l hl => (f2 l hl).lt), by omega, rfl⟩
  refine sd_seq (sd_if (et_eqN (k := 2) rfl rfl) (fun _ => ?_) (fun _ => sd_go ?_))
  · refine sd_retD (S := fun ns => [dr p ns, .val (iD x), .no]) hd (ec_fam (n := 4) ec_int (ec_new (ef_cb (ea_cons (EF.p (ef_lst (ea_cons (tup 0 1) (ea_cons (tup 0 2) (ea_cons (tup 0 3) (ea_cons (tup 1 2) ea_nil)))))) ea_nil) (rf_sortY (ts := [[0, 1], [0, 2], [0, 3], [1, 2]]) (.inr (by decide)))) (imAll_tD _))) o ⟨4, _, KM.four, by decide, rfl⟩
  refine sd_seq (sd_if (et_eqN (k := 3) rfl rfl) (fun _ => ?_) (fun _ => sd_go ?_))
  · exact sd_retD (S := fun ns => [dr p ns, .val (iD x), .no]) hd (ec_fam (n := 4) ec_int (ec_new (ef_call (ea_cons (ep_int (i := ((4 : Nat) : Int))) ea_nil) ⟨4, by decide, by decide, rfl, rfl⟩) (imAll_tD _))) o ⟨4, _, KM.fan4, by decide, rfl⟩
  refine sd_seq (sd_if (et_eqN (k := 4) rfl rfl) (fun _ => ?_) (fun _ => sd_go ?_))
  · refine sd_retDN (S := fun ns => [dr p ns, .val (iD x), .no]) (P := Fam4) hd (en_fam (PA := fun d => d = iD 4) (PB := fun _ d => ∃ k, 2 ≤ k ∧ k ≤ 3 ∧ d = lsD (KM.sized 4 k)) hd (en_ec (d := iD 4) (fun _ => ec_int) hd rfl)
      (fun _ _ => en_callF (PA := fun l => ∃ k, 2 ≤ k ∧ k ≤ 3 ∧ l = [iD 4, iD k]) hd (ena_cons (P1 := fun d => d = iD 4) (P2 := fun _ l => ∃ k, 2 ≤ k ∧ k ≤ 3 ∧ l = [iD k]) hd (en_ec (d := iD 4) (fun _ => ec_int) hd rfl)
        (fun _ _ => ena_cons (P1 := fun d => ∃ k, 2 ≤ k ∧ k ≤ 3 ∧ d = iD k) (P2 := fun _ l => l = []) hd (en_op (P1 := fun d => d = iD 2) (P2 := fun _ d => ∃ x, x < 2 ∧ d = iD x) hd (en_ec (d := iD 2) (fun _ => ec_int) hd rfl) (fun _ _ => en_pick (b := 2) hd (fun _ => ec_int) (by decide)) (fun a b h1 h2 => by
          obtain ⟨c, hc, rfl⟩ := h2
          subst h1
          exact ⟨_, r2_int (g := fun i j => i + j), rfl, 2 + c, by omega, by omega, by show D.int ((2 : Int) + (c : Int)) = D.int ((2 + c : Nat) : Int); congr 1⟩)) (fun _ _ => ena_nil hd rfl) (fun d l h1 h2 => by obtain ⟨k, a, b, rfl⟩ := h1; exact ⟨k, a, b, by rw [h2]⟩)) (fun d l h1 h2 => by obtain ⟨k, a, b, rfl⟩ := h2; exact ⟨k, a, b, by rw [h1]⟩))
        (fun l h => by obtain ⟨k, a, b, rfl⟩ := h; exact ⟨_, ⟨4, k, by decide, by omega, rfl, rfl⟩, imAll_tD _, k, a, b, rfl⟩))
      (fun d d' h1 h2 => ?_)) o (fun d h => h) ns
    obtain ⟨k, a, b, rfl⟩ := h2
    subst h1
    exact ⟨4, _, KM.sized_gf (by omega) (by omega), by decide, rfl⟩
  refine sd_seq (sd_if (et_eqN (k := 6) rfl rfl) (fun _ => ?_) (fun _ => sd_go ?_))
  · refine sd_retDN (S := fun ns => [dr p ns, .val (iD x), .no]) (P := Fam4) hd (en_fam (PA := fun d => d = iD 4) (PB := fun _ d => ∃ ls' : List (List Nat), ls'.Sublist (KM.sized 4 2) ∧ 2 ≤ ls'.length ∧ d = lsD ls') hd (en_ec (d := iD 4) (fun _ => ec_int) hd rfl)
      (fun _ _ => en_draw hd (fun _ => eac_cons (sized 4 2 (by decide) (by decide)) (eac_cons (ec_int (k := ((2 : Nat) : Int))) eac_nil)) ⟨KM.sized 4 2, 2, by rw [KM.sized42]; decide, by rw [KM.sized42]; decide, rfl⟩ (fun d h => h _ _ rfl) (.inr fun _ => rfl))
      (fun d d' h1 h2 => ?_)) o (fun d h => h) ns
    obtain ⟨ls', f1, f2, rfl⟩ := h2
    subst h1
    exact ⟨4, ls', (KM.sized_gf (by decide) (by decide)).sub f1 (fun z => by rw [z] at f2; simp at f2), by decide, rfl⟩
  · refine sd_retDN (S := fun ns => [dr p ns, .val (iD x), .no]) (P := Fam4) hd (en_fam (PA := fun d => ∃ n, 1 ≤ n ∧ n ≤ 2 ∧ d = iD n) (PB := fun _ d => d = lsD [[0]]) hd (en_op (P1 := fun d => d = iD 1) (P2 := fun _ d => ∃ x, x < 2 ∧ d = iD x) hd (en_ec (d := iD 1) (fun _ => ec_int) hd rfl) (fun _ _ => en_pick (b := 2) hd (fun _ => ec_int) (by decide)) (fun a b h1 h2 => by
          obtain ⟨c, hc, rfl⟩ := h2
          subst h1
          exact ⟨_, r2_int (g := fun i j => i + j), rfl, 1 + c, by omega, by omega, by show D.int ((1 : Int) + (c : Int)) = D.int ((1 + c : Nat) : Int); congr 1⟩))
      (fun _ _ => en_ec (d := lsD [[0]]) (fun _ => ec_new (ef_lst (ea_cons (ep_tup (ea_cons ep_int ea_nil) (by simp [zs])) ea_nil)) rfl) hd rfl)
      (fun d d' h1 h2 => ?_)) o (fun d h => h) ns
    obtain ⟨n, a, b, rfl⟩ := h1
    subst h2
    exact ⟨n, _, KM.one1 a, by omega, rfl⟩
theorem ok_law_small4A {f : Addr} {fd : FuncData} (F : Fun K "_law_small" "_law_small" s_law_small f fd) (T : Txt mg) (c_law_pick : Cl P w K mg base 1 "_law_pick" (PickP K)) (c_law_sized : Cl P w K mg base 2 "_law_sized" (Fresh K p_law_sized)) (c_law_mixed_lots : Cl P w K mg base 3 "_law_mixed_lots" (DrawP K ok_mix p_mixed))
    (c_law_fan : Cl P w K mg base 1 "_law_fan" (Fresh K p_law_fan)) (c_law_chosen : Cl P w K mg base 2 "_law_chosen" (DrawP K ok_ch p_chosen)) : FnOk P w K mg base CX0 4 f fd ["_law_draws_here"] (DrawA K p_fam4) := by
  exact FnOk.drawA (ok := ok_0) rfl (ok_law_small4 F T c_law_pick c_law_sized c_law_mixed_lots c_law_fan c_law_chosen)
end
end Y
set_option Elab.async false
set_option linter.all false
set_option autoImplicit false
set_option maxRecDepth 100000
set_option maxHeartbeats 4000000
namespace Y
open PySem L2
section
variable {K : PySem.W.Frag} {B : List Addr} {H0 : Hp} {Z Yp : Hp → Prop} {E E' : List Slot} {ta tb te : TE} {l m : List D} {d : D} {De : Ends} {tu t : TS}
def RL (K : PySem.W.Frag) (p : Addr) (l : List D) : Hp → Prop := fun H => ∃ vs, H p = some (.lst vs) ∧ IsAll K H vs l
theorem sd_asgP {i : Nat} (h : EF K B H0 Z te E l) (im : imAll l = true) (k : ∀ p, (∀ {H H' : Hp}, Ex H H' → Z H → Z H') → SD K B H0 (fun H => Z H ∧ RL K p l H) tNext De (E.set i (.val (.adr p)))) : SD K B H0 Z (tAsg te (gName i)) De E := fun σ H e =>
  h σ H e _ fun p vs H1 np e1 hp h1 => by
    have e' := e.ext e1
    have no : p ∉ ows E := new_no e np
    have e2 : Env K B H0 (fun H => Z H ∧ RL K p l H) E σ H1 := ⟨e'.ex, e'.inj, e'.fr, e'.len, e'.val, e'.own, ⟨e'.pin, vs, by rw [hid_at no]; exact hp, h1.clean e'.lsts im⟩, fun x q => ⟨e.zm x q.1, let ⟨vs, a, b⟩ := q.2; ⟨vs, x _ _ a, b.mono x⟩⟩⟩
    exact k p e.zm _ H1 (e2.set (.adr p) rfl)
theorem el_adr {i : Nat} {p : Addr} (h : E[i]? = some (.val (.adr p))) (hz : ∀ H, Z H → RL K p l H) : EL K B H0 Z (tVar i) E l := fun σ H e Q q => by
  obtain ⟨v, h1, h2⟩ := e.val i _ h
  cases h2
  obtain ⟨vs, a, b⟩ := hz _ e.pin
  exact ⟨_, h1, q p vs H (Ex.refl H) (hid_some a).2 (b.mono (hid_le _ _))⟩
theorem ec_adr {i : Nat} {p : Addr} (h : E[i]? = some (.val (.adr p))) (hz : ∀ H, Z H → RL K p l H) : EC K B H0 Z (tVar i) E (.lst l) := fun σ H e Q q => by
  obtain ⟨v, h1, h2⟩ := e.val i _ h
  cases h2
  obtain ⟨vs, a, b⟩ := hz _ e.pin
  exact ⟨_, h1, q _ H (Ex.refl H) (.lst (SqL.of a) b)⟩
theorem sd_forLZ {α : Type} {j : Nat} (c : α → D) {ts : List α} (W : Nat → List Slot → Prop) (h : EC K B H0 Z te E (.lst (ts.map c))) (h0 : W 0 E)
    (hs : ∀ (Z' : Hp → Prop), (∀ H, Z' H → Z H) → ∀ i a E, ts[i]? = some a → W i E → SD K B H0 Z' tu (LW K B H0 Z' De (W (i + 1))) (E.set j (.val (c a))))
    (hd : ∀ E, W ts.length E → SD K B H0 Z tNext De E) : SD K B H0 Z (tFor (iList K te) (gName j) tu) De E := fun σ H e =>
  h σ H e _ fun v H1 e1 h1 => by
    have e' := e.ext e1
    cases h1 with
    | lst hq ht =>
      rename_i a xs
      refine ⟨a, rfl, ⟨xs, sqL_ex (hid_le _ _) hq⟩, ?_⟩
      have hl : xs.length = ts.length := by rw [ht.length, List.length_map]
      refine for_list (xs := xs) (fun i σ' H' => ∃ E, W i E ∧ Env K B H0 (fun H => Z H ∧ SqL K H a xs ∧ IsAll K H xs (ts.map c)) E σ' H') ?_ (fun i σ' H' _ ⟨_, _, p⟩ => sqL_ex (hid_le _ _) p.pin.2.1) ?_ ?_
      · exact ⟨E, h0, e'.ex, e'.inj, e'.fr, e'.len, e'.val, e'.own, ⟨e'.pin, hq, ht⟩, fun x q => ⟨e.zm x q.1, sqL_ex x q.2.1, q.2.2.mono x⟩⟩
      · rintro i x σ' H' hx ⟨E1, pi, p⟩
        obtain ⟨d, hd1, hd2⟩ := p.pin.2.2.get hx
        obtain ⟨r, hr, rfl⟩ := map_at hd1
        exact hs _ (fun _ z => z.1) i r E1 hr pi _ _ (p.setC hd2)
      · rintro σ' H' ⟨E1, pi, p⟩
        rw [hl] at pi
        exact hd E1 pi _ _ (p.drop e.zm)
theorem sd_lwD {W : List Slot → Prop} (zm : ∀ {H H' : Hp}, Ex H H' → Z H → Z H') (hw : W E') (h : LeE E E') : SD K B H0 (fun H => Z H ∧ Yp H) tNext (LW K B H0 Z De W) E := fun σ H e => ⟨E', hw, (e.drop zm).le h⟩
theorem cut_ab {xs : List V} {a b : Nat} (ha : a ≤ xs.length) (hb : b ≤ xs.length) : cutV xs (some (a : Int)) (some (b : Int)) = (xs.drop a).take (b - a) := by
  unfold cutV
  rw [HT.sIx_nat, HT.sIx_nat, Nat.min_eq_left ha, Nat.min_eq_left hb]
theorem cut_a {xs : List V} {a : Nat} (ha : a ≤ xs.length) : cutV xs (some (a : Int)) none = xs.drop a := by
  unfold cutV
  rw [HT.sIx_nat, HT.sIx_none, Nat.min_eq_left ha]
  refine List.take_of_length_le ?_
  rw [List.length_drop]
  omega
theorem ef_slAB {a b : Nat} (h : EP K B H0 Z te E (.lst l)) (ha : EP K B H0 Z ta E (iD a)) (hb : EP K B H0 Z tb E (iD b)) (h1 : a ≤ l.length) (h2 : b ≤ l.length) : EF K B H0 Z (tSl (rSlL K) te (tPart ta) (tPart tb)) E ((l.drop a).take (b - a)) := fun σ H e Q q =>
  h σ H e _ fun v H1 e1 g => ha σ H1 (e.ext e1) _ fun u H2 e2 g2 => by
    cases g2
    refine ⟨(a : Int), rfl, hb σ H2 (e.ext (e1.trans e2)) _ fun u3 H3 e3 g3 => ?_⟩
    cases g3
    obtain ⟨r, xs, rfl, hq, hx⟩ := g.lst_inv
    have hl := hx.length
    refine ⟨(b : Int), rfl, r, xs, rfl, sqL_ex (e2.trans e3) hq, fun y ny => ?_⟩
    rw [cut_ab (by omega) (by omega)]
    have ex := (e1.trans e2).trans e3
    exact q y _ _ (ex.back ny) (ex.trans (Ex.new ny)) upd_same ((((hx.drop a).take (b - a)).mono (e2.trans e3)).mono (Ex.new ny))
theorem ef_slA {a : Nat} (h : EP K B H0 Z te E (.lst l)) (ha : EP K B H0 Z ta E (iD a)) (h1 : a ≤ l.length) : EF K B H0 Z (tSl (rSlL K) te (tPart ta) tNoPart) E (l.drop a) := fun σ H e Q q =>
  h σ H e _ fun v H1 e1 g => ha σ H1 (e.ext e1) _ fun u H2 e2 g2 => by
    cases g2
    obtain ⟨r, xs, rfl, hq, hx⟩ := g.lst_inv
    have hl := hx.length
    refine ⟨(a : Int), rfl, r, xs, rfl, sqL_ex e2 hq, fun y ny => ?_⟩
    rw [cut_a (by omega)]
    have ex := e1.trans e2
    exact q y _ _ (ex.back ny) (ex.trans (Ex.new ny)) upd_same (((hx.drop a).mono e2).mono (Ex.new ny))
theorem ec_ixV {k : Int} (h : EC K B H0 Z ta E (.lst l)) (hb : EP K B H0 Z tb E (.int k)) (hk : atI l k = some d) : EC K B H0 Z (tOp (rIxL K) ta tb) E d := fun σ H e Q q =>
  h σ H e _ fun v H1 e1 h1 => hb σ H1 (e.ext e1) _ fun u H2 e2 h2 => by
    cases h2
    have h1' := h1.mono (hid_ex (P := ows E) e2)
    cases h1' with
    | lst hq ht =>
      rename_i a xs
      have hl := ht.length
      obtain ⟨j, hj1, hj2⟩ := Option.bind_eq_some_iff.mp hk
      obtain ⟨v, hv, hv2⟩ := ht.getD hj2
      exact ⟨a, xs, k, v, rfl, rfl, sqL_ex (hid_le _ _) hq, Option.bind_eq_some_iff.mpr ⟨j, by rw [hl]; exact hj1, hv⟩, q v H2 (e1.trans e2) hv2⟩
/-- an own list that is not changed any more -/
theorem sd_frz {i : Nat} {p : Addr} (hi : E[i]? = some (.own p l)) (k : (∀ {H H' : Hp}, Ex H H' → Z H → Z H') → SD K B H0 (fun H => Z H ∧ RL K p l H) t De (E.set i (.val (.adr p)))) : SD K B H0 Z t De E := fun σ H e => by
  have hsub : ∀ a ∈ ows (E.set i (.val (.adr p))), a ∈ ows E := ows_sub (fun _ _ z => by cases z)
  have hx : Ex (hid (ows E) H) (hid (ows (E.set i (.val (.adr p)))) H) := hid_sub hsub
  have hlt : i < E.length := (List.getElem?_eq_some_iff.mp hi).1
  have no : p ∉ ows (E.set i (.val (.adr p))) := fun hm => by
    obtain ⟨j, m, hj⟩ := mem_ows.mp hm
    rcases set_get hj with ⟨_, q, _⟩ | ⟨ne, q⟩
    · cases q
    · exact ne (e.inj i j p l m hi q)
  obtain ⟨h1, vs, h2, h3⟩ := e.own i p l hi
  refine k e.zm σ H ⟨e.ex, fun a b q l m h h' => ?_, fun a q l h => ?_, by rw [List.length_set]; exact e.len, fun j d h => ?_, fun j q m h => ?_, ⟨e.zm hx e.pin, vs, by rw [hid_at no]; exact h2, h3.mono hx⟩, fun x z => ⟨e.zm x z.1, let ⟨vs, a, b⟩ := z.2; ⟨vs, x _ _ a, b.mono x⟩⟩⟩
  · rcases set_get h with ⟨_, z, _⟩ | ⟨_, z⟩
    · cases z
    · rcases set_get h' with ⟨_, z', _⟩ | ⟨_, z'⟩
      · cases z'
      · exact e.inj a b q l m z z'
  · rcases set_get h with ⟨_, z, _⟩ | ⟨_, z⟩
    · cases z
    · exact e.fr a q l z
  · rcases set_get h with ⟨rfl, z, _⟩ | ⟨_, z⟩
    · cases z
      exact ⟨_, h1, .adr p⟩
    · obtain ⟨v, g1, g2⟩ := e.val j d z
      exact ⟨v, g1, g2.mono hx⟩
  · rcases set_get h with ⟨_, z, _⟩ | ⟨_, z⟩
    · cases z
    · obtain ⟨g1, us, g2, g3⟩ := e.own j q m z
      exact ⟨g1, us, g2, g3.mono hx⟩
end
theorem sd_ifJ {K : PySem.W.Frag} {B : List Addr} {H0 : Hp} {Z : Hp → Prop} {E : List Slot} {t : TT} {tx ty : TS} {De : Ends} {b : Bool} {α : Type} {G : α → Prop} {F : α → List Slot} (h : ET K B H0 Z t E b) (h1 : b = true → (∀ a, G a → SD K B H0 Z tNext De (F a)) → SD K B H0 Z tx De E)
    (h2 : b = false → (∀ a, G a → SD K B H0 Z tNext De (F a)) → SD K B H0 Z ty De E) (k : ∀ a, G a → SD K B H0 Z tNext De (F a)) : SD K B H0 Z (tIfS t tx ty) De E := sd_if h (fun e => h1 e k) (fun e => h2 e k)
theorem ef_ea {K : PySem.W.Frag} {B : List Addr} {H0 : Hp} {Z : Hp → Prop} {E : List Slot} {a : TA} {l m : List D} (e : m = l) (h : EA K B H0 Z a E l) : EA K B H0 Z a E m := e ▸ h
def wI (a : Str) (k : Int) : D := .tup [.str a, .int k]
def wS (a b : Str) : D := .tup [.str a, .str b]
theorem wI_im (a : Str) (k : Int) : (wI a k).im = true := rfl
theorem exmK {P : Program} {K : PySem.W.Frag} {C f : Addr} {t : Str} (c : ExcK K P C f t) : PySem.W.exmOne K (.ref C) (.ref C) = some true := by
  obtain ⟨cd, hc, _⟩ := PySem.W.any_some c.hd
  unfold PySem.W.exmOne
  rw [c.exC, if_pos (by decide)]
  unfold PySem.W.kitCls
  show (if ((PySem.W.clsIn K C).isSome && PySem.W.typeIn K (.ref C) == some (.type "type")) = true then PySem.W.mroIn K C (.ref C) else none) = some true
  rw [hc, c.tyC, c.slf]
  rfl
theorem exmS {P : Program} {K : PySem.W.Frag} {C f : Addr} {t : Str} (c : ExcS K P C f t) : PySem.W.exmOne K (.ref C) (.ref C) = some true := by
  obtain ⟨cd, hc, _⟩ := PySem.W.any_some c.hd
  unfold PySem.W.exmOne
  rw [c.exC, if_pos (by decide)]
  unfold PySem.W.kitCls
  show (if ((PySem.W.clsIn K C).isSome && PySem.W.typeIn K (.ref C) == some (.type "type")) = true then PySem.W.mroIn K C (.ref C) else none) = some true
  rw [hc, c.tyC, c.slf]
  rfl
theorem exmN {P : Program} {K : PySem.W.Frag} {C f C2 f2 : Addr} {t t2 : Str} (c : ExcK K P C f t) (c2 : ExcS K P C2 f2 t2) (h : PySem.W.mroIn K C2 (.ref C) = some false) : PySem.W.exmOne K (.ref C2) (.ref C) = some false := by
  obtain ⟨cd, hc, _⟩ := PySem.W.any_some c.hd
  unfold PySem.W.exmOne
  rw [c.exC, if_pos (by decide)]
  unfold PySem.W.kitCls
  show (if ((PySem.W.clsIn K C).isSome && PySem.W.typeIn K (.ref C) == some (.type "type")) = true then PySem.W.mroIn K C2 (.ref C) else none) = some false
  rw [hc, c.tyC, h]
  rfl
theorem wI_cmp (a : Str) (k : Int) (h : (D.str a).so = true) : Cmpb (wI a k) := ⟨rfl, by simp [D.so, soAll, wI] at h ⊢; exact h, by simp [D.dep, depAll, wI]⟩
theorem wS_cmp (a b : Str) (h : (D.str a).so = true) (h2 : (D.str b).so = true) : Cmpb (wS a b) := ⟨rfl, by simp [D.so, soAll, wS] at h h2 ⊢; exact ⟨h, h2⟩, by simp [D.dep, depAll, wS]⟩
section
variable {K : PySem.W.Frag}
theorem sd_asgC {B : List Addr} {H0 : Hp} {Z : Hp → Prop} {E : List Slot} {te : TE} {d : D} {De : Ends} {i : Nat} (h : EC K B H0 Z te E d) (k : SD K B H0 Z tNext De (E.set i (.val d))) : SD K B H0 Z (tAsg te (gName i)) De E := fun σ H e =>
  h σ H e _ fun v H1 e1 h1 => k _ H1 ((e.ext e1).setC h1)
end
theorem atI_nat' {α : Type} {l : List α} {i : Nat} {d : α} (h : l[i]? = some d) : atI l (i : Int) = some d := by
  have hi := (List.getElem?_eq_some_iff.mp h).1
  unfold atI ixN
  rw [if_pos (by omega), if_pos (by omega)]
  have : ((i : Int)).toNat = i := by omega
  rw [this]
  exact h
section
variable {K : PySem.W.Frag} {B : List Addr} {H0 : Hp} {Z : Hp → Prop} {E : List Slot} {S : List Int → List Slot} {i : Nat} {p : Addr} {ta tb te : TE} {t : TT} {l : List D} {De : Ends}
theorem en_ixL {P : D → Prop} (hd : DS S i p) (ha : ∀ ns, EC K B H0 Z te (S ns) (.lst l)) (hb : EN K B H0 Z tb S p (fun d => ∃ x, x < l.length ∧ d = iD x)) (hP : ∀ d ∈ l, P d) : EN K B H0 Z (tOp (rIxL K) te tb) S p P := fun ns σ H e Q q =>
  ha ns σ H e _ fun v H1 e1 h1 => hb ns σ H1 (e.ext e1) _ fun u d ns2 H2 p2 e2 w2 h2 => by
    obtain ⟨x, hx, rfl⟩ := p2
    cases h2
    have h1' := drw_is hd w2 h1
    obtain ⟨a, xs, rfl, hq, hxs⟩ := h1'.lst_inv
    have hl := hxs.length
    obtain ⟨v, hv, hi⟩ := hxs.getD (List.getElem?_eq_getElem hx)
    refine ⟨a, xs, (x : Int), v, rfl, rfl, sqL_ex (hid_le _ _) hq, atI_nat' hv, q v _ ns2 H2 (hP _ (List.getElem_mem hx)) e2 (e1.drw.trans w2) hi⟩
theorem ent_notB (h : EN K B H0 Z te S p (fun d => d = .bl true)) : ENT K B H0 Z (tNot (tB te)) S p (fun b => b = false) := fun ns σ H e Q q =>
  h ns σ H e _ fun v d ns' H' p1 e1 w1 h1 => by
    subst p1
    cases h1
    exact ⟨true, rfl, q false ns' H' rfl e1 w1⟩
theorem sd_ifNJ {α : Type} {G : α → Prop} {F : α → List Int → List Slot} {tx ty : TS} {P : Bool → Prop} (h : ENT K B H0 Z t S p P) (h1 : P true → (∀ a, G a → ∀ ns, SD K B H0 Z tNext De (F a ns)) → ∀ ns, SD K B H0 Z tx De (S ns)) (h2 : P false → (∀ a, G a → ∀ ns, SD K B H0 Z tNext De (F a ns)) → ∀ ns, SD K B H0 Z ty De (S ns))
    (k : ∀ a, G a → ∀ ns, SD K B H0 Z tNext De (F a ns)) : ∀ ns, SD K B H0 Z (tIfS t tx ty) De (S ns) := sd_ifN h (fun e => h1 e k) (fun e => h2 e k)
end
def famR (r : Nat × List (List Nat)) : D := famL r.1 r.2
def p_true (_ : List D) (d : D) : Prop := d = .bl true
/-! families put in: what the walks ask -/
theorem putR_take (sh : List (List (List Nat))) (hs : ∀ s ∈ sh, s ≠ []) : ∀ (lot : List Nat) (R : List (List Nat)) (i : Nat), (∀ e ∈ lot, e < sh.length) → ((lot.take i).foldl (KM.putS sh) R).length ≤ (lot.foldl (KM.putS sh) R).length
  | lot, R, 0, h => by
    rw [List.take_zero, List.foldl_nil]
    have grow : ∀ (R : List (List Nat)) (e : Nat), e < sh.length → R.length ≤ (KM.putS sh R e).length := fun R e he => by
      unfold KM.putS
      have hg : sh.getD e [] ≠ [] := by
        rw [show sh.getD e [] = sh[e] by simp [List.getD, List.getElem?_eq_getElem he]]
        exact hs _ (List.getElem_mem he)
      have hl : 1 ≤ (sh.getD e []).length := by
        cases hc : sh.getD e [] with
        | nil => exact absurd hc hg
        | cons a b => simp
      induction R with
      | nil => simp
      | cons a R ih =>
        rw [List.flatMap_cons, List.length_append, List.length_map, List.length_cons]
        omega
    have all : ∀ (lot : List Nat) (R : List (List Nat)), (∀ e ∈ lot, e < sh.length) → R.length ≤ (lot.foldl (KM.putS sh) R).length := by
      intro lot
      induction lot with
      | nil => intro R _; exact Nat.le_refl _
      | cons a lot ih =>
        intro R h
        rw [List.foldl_cons]
        exact Nat.le_trans (grow R a (h a (by simp))) (ih _ fun e he => h e (List.mem_cons_of_mem _ he))
    exact all lot R h
  | [], R, i + 1, h => by simp
  | a :: lot, R, i + 1, h => by
    rw [List.take_succ_cons, List.foldl_cons, List.foldl_cons]
    exact putR_take sh hs lot _ i fun e he => h e (List.mem_cons_of_mem _ he)
/-- families put in, small enough -/
structure PinOk (n : Nat) (L : List (List Nat)) (rows : Rws) : Prop where
  p : KM.Pin n L rows
  s2 : KM.siz rows ≤ 60
  few : ∀ r ∈ rows, r.2.length < 20000
  len : (KM.put L rows).length < 20000
theorem pin_len {n : Nat} {L : List (List Nat)} {rows : Rws} (h : KM.Pin n L rows) : n ≤ KM.siz rows := by
  have : ∀ (rs : Rws), (∀ r ∈ rs, 1 ≤ r.1) → rs.length ≤ KM.siz rs := by
    intro rs
    induction rs with
    | nil => intro _; simp [KM.siz]
    | cons a rs ih =>
      intro h
      have h1 := h a (by simp)
      have h2 := ih fun r hr => h r (List.mem_cons_of_mem _ hr)
      unfold KM.siz at h2 ⊢
      rw [List.map_cons, List.sum_cons, List.length_cons]
      omega
  rw [← h.len]
  exact this rows fun r hr => (h.r r hr).n1
theorem PinOk.call {n : Nat} {L : List (List Nat)} {rows : Rws} (h : PinOk n L rows) : CallOk n L rows := by
  have g := KM.put_gf h.p
  have s2 := h.s2
  have hn := pin_len h.p
  have tl : (KM.putL L (KM.shares rows)).length < 20000 := by
    have := h.len
    unfold KM.put at this
    rwa [KM.srt_len] at this
  have he : ∀ l ∈ L, ∀ e ∈ l, e < (KM.shares rows).length := fun l hl e he => by rw [KM.shares_len]; exact h.p.lt hl he
  have hsne : ∀ s ∈ KM.shares rows, s ≠ [] := fun s hs => by
    obtain ⟨e, he, rfl⟩ := List.mem_map.mp hs
    have he' := List.mem_range.mp he
    have := (h.p.gf he').ne
    unfold KM.up
    rw [show rows.getD e (0, []) = KM.rw_ rows e from rfl]
    simpa using this
  refine ⟨h.p.len, by omega, h.p.s1, h.s2, fun r hr => ⟨h.few r hr, fun l hl => ?_⟩, ⟨he, fun l hl i => ⟨?_, fun r hr => ?_⟩, fun s hs m hm => ?_, tl, .inr h.p.pne.2⟩, ⟨g.n1, h.s2, g.ne, h.len, g.lne, g.g.asc, g.lt⟩⟩
  · have gr := h.p.r r hr
    have := asc_len (gr.g.asc l hl) (gr.lt l hl)
    have : r.1 ≤ KM.siz rows := by
      obtain ⟨e, he, rfl⟩ := List.getElem_of_mem hr
      have := KM.stt_end (rows := rows) he
      rw [KM.rw_get he] at this
      omega
    omega
  · refine Nat.lt_of_le_of_lt (putR_take (KM.shares rows) hsne l [[]] i (he l hl)) (Nat.lt_of_le_of_lt ?_ tl)
    obtain ⟨A, B, e⟩ := List.append_of_mem hl
    rw [e]
    unfold KM.putL
    rw [List.flatMap_append, List.flatMap_cons, List.length_append, List.length_append]
    show (KM.putR (KM.shares rows) l).length ≤ _
    omega
  · have an := KM.putR_an h.p.r (l.take i) [[]] 0 ((h.p.g.g.asc l hl).sublist (List.take_sublist _ _)) (fun e he => h.p.lt hl (List.mem_of_mem_take he)) (KM.an_nil 0) (fun _ _ => Nat.zero_le _) (Nat.zero_le _)
    have := asc_len (an.asc r hr) (an.lt r hr)
    omega
  · obtain ⟨e, he, rfl⟩ := List.mem_map.mp hs
    have he' := List.mem_range.mp he
    obtain ⟨k, hk, rfl⟩ := KM.mem_up.mp hm
    have gr := h.p.gf he'
    have := asc_len (gr.g.asc k hk) (gr.lt k hk)
    have := KM.stt_end he'
    rw [List.length_map]
    omega
theorem PinOk.putD {n : Nat} {L : List (List Nat)} {rows : Rws} (h : PinOk n L rows) (C : Addr) : putD C L rows = famD C (KM.siz rows) (KM.put L rows) := by
  unfold Y.putD
  rw [show KM.srt (KM.putL L (KM.shares rows)) = KM.put L rows from rfl, KM.least_good (KM.put_gf h.p).g]
  rfl
theorem pow14 {n k : Nat} (h : k ≤ 2 ^ n) (hn : n ≤ 14) : k < 20000 := by
  have h2 : 2 ^ n ≤ 2 ^ 14 := Nat.pow_le_pow_right (by decide) hn
  have h3 : (2 : Nat) ^ 14 = 16384 := by decide
  omega
theorem pin_ok {n : Nat} {L : List (List Nat)} {rows : Rws} (h : KM.Pin n L rows) (s : KM.siz rows ≤ 14) : PinOk n L rows := by
  refine ⟨h, by omega, fun r hr => ?_, pow14 (KM.gf_len (KM.put_gf h)) s⟩
  refine pow14 (KM.gf_len (h.r r hr)) ?_
  obtain ⟨e, he, rfl⟩ := List.getElem_of_mem hr
  have := KM.stt_end (rows := rows) he
  rw [KM.rw_get he] at this
  omega
end Y
set_option Elab.async false
set_option linter.all false
set_option autoImplicit false
set_option maxRecDepth 100000
set_option maxHeartbeats 4000000
namespace Y
open PySem L2
section
variable {P : Program} {w : World} {K : PySem.W.Frag} {mg : Str → Option Value} {base : Heap}
/-! law_starts -/
abbrev s_law_starts : Stmt := topS 58
abbrev N_law_starts : List Str := ["_law_rows", "_law_starts_here", "_law_many", "_law_row"]
theorem sc_law_starts : FnScope N_law_starts ["_law_rows"] (defScope s_law_starts) := ⟨rfl, rfl, rfl, by decide +kernel, rfl, by decide +kernel, by decide +kernel⟩
/-- where each begins, and the end -/
def stL (rows : Rws) : List Nat := KM.starts (rows.map (·.1)) ++ [KM.siz rows]
def p_lstarts (ds : List D) (l : List D) : Prop := ∃ rows : Rws, rows.length < 1000 ∧ ds = [.lst (rows.map famR)] ∧ l = (stL rows).map iD
theorem starts_all (ns : List Nat) : ns.foldl KM.startsS ([], 0) = (KM.starts ns, ns.sum) := by
  have := KM.starts_acc ns [] 0
  rw [this]
  simp [KM.starts]
theorem stL_at {rows : Rws} {e : Nat} (h : e < rows.length) : ((stL rows).map iD)[e]? = some (iD (KM.stt rows e)) := by
  have h1 : e < (KM.starts (rows.map (·.1))).length := by rw [KM.starts_len, List.length_map]; exact h
  unfold stL
  rw [List.map_append, List.getElem?_append_left (by rw [List.length_map]; exact h1), List.getElem?_map, List.getElem?_eq_getElem h1, ← KM.stt_get h]
  simp [List.getD, List.getElem?_eq_getElem h1]
theorem ok_law_starts {f : Addr} {fd : FuncData} (F : Fun K "_law_starts" "_law_starts" s_law_starts f fd) (T : Txt mg) : FnOk P w K mg base CX0 1 f fd ["_law_rows"] (Fresh K p_lstarts) := by
  refine fresh_ok F sc_law_starts (fun ds d h => by obtain ⟨_, _, rfl, _⟩ := h; rfl) (by decide) fun cdv A outer s H E hr => ?_
  refine ⟨_, (pss_cons (ps_set (i := 1) sc_law_starts.nd rfl (Or.inl rfl) (pe_lst pa_nil))
    (pss_cons (ps_set (i := 2) sc_law_starts.nd rfl (Or.inl rfl) pe_int)
    (pss_cons (ps_for PassesOwn.never rfl (pi_list (pv 0)) (pg_name (i := 3) sc_law_starts.nd rfl (Or.inl rfl))
    (pss_cons (ps_expr (pe_bm PySem.F.plainAttrs_list PySem.F.slot_list_append PySem.F.type_list_append mt_append (pv 1) (pa_cons (pv 2) pa_nil)))
    (pss_one (ps_set (i := 2) sc_law_starts.nd rfl (Or.inl rfl) (pe_op op_add (pv 2) (pe_ix (r := rIxL K) ix_list (pv 3) pe_int (fun _ _ => rfl)))))))
    (pss_one (ps_ret (pe_op op_cat (pv 1) (pe_lst (pa_cons (pv 2) pa_nil)))))))), ?_⟩
  rintro ds d ⟨rows, hz, rfl, rfl⟩ De o
  refine sd_seq (sd_asgO (ef_lst ea_nil) rfl fun p => sd_go ?_)
  refine sd_seq (sd_asg (d := iD 0) ep_int rfl (sd_go ?_))
  let St : Nat → List Nat × Nat := fun i => ((rows.take i).map (·.1)).foldl KM.startsS ([], 0)
  have hlen : ∀ i, (St i).1.length < 1000 := fun i => by
    have := KM.starts_len ((rows.take i).map (·.1))
    unfold KM.starts at this
    simp only [St]
    rw [this, List.length_map, List.length_take]
    omega
  refine sd_seq (sd_forLW (c := famR) (ts := rows) (fun i E => E = [.val (.lst (rows.map famR)), .own p ((St i).1.map iD), .val (iD (St i).2), .no]) (ec_var rfl) rfl ?_ ?_)
  · rintro Z' i r E hr' rfl
    have hst : St (i + 1) = KM.startsS (St i) r.1 := by
      simp only [St]
      rw [take_step hr', List.map_append, List.foldl_append]
      rfl
    have := hlen i
    refine sd_seq (sd_app (p := p) (i := 1) rfl (ep_var (i := 2) (d := iD (St i).2) rfl) rfl (by rw [List.length_map]; omega) (sd_go ?_))
    refine sd_asg (d := iD ((St i).2 + r.1)) (ep_is (ep_op (ep_var (i := 2) (d := iD (St i).2) rfl) (ep_op (ep_var (i := 3) (d := .lst [iD r.1, lsD r.2]) rfl) ep_int (r2_ixL (i := 0) (d := iD r.1) rfl)) r2_int) (by unfold iD; rw [Int.natCast_add])) rfl (sd_lw rfl ?_)
    rw [hst]
    unfold KM.startsS
    simp only [List.map_append]
    exact .eq (.eq (.eq (.no .nil)))
  · rintro E rfl
    have h1 := hlen rows.length
    have e0 : St rows.length = (KM.starts (rows.map (·.1)), KM.siz rows) := by
      simp only [St]
      rw [List.take_length, starts_all]
      rfl
    rw [e0] at h1 ⊢
    refine sd_go (sd_retF (ef_is (ef_cat (el_own (i := 1) rfl) (el_new (ef_lst (ea_cons (ep_var (i := 2) (d := iD (KM.siz rows)) rfl) ea_nil))) ?_) ?_) o.rt)
    · rw [List.length_map, List.length_singleton]
      have h2 : (KM.starts (rows.map (·.1))).length < 1000 := h1
      omega
    · unfold stL
      rw [List.map_append]
      rfl
/-! law_put_lots -/
abbrev s_law_put_lots : Stmt := topS 59
abbrev N_law_put_lots : List Str := ["_law_lots", "_law_rows", "_law_starts_here", "_law_found", "_law_lot", "_law_made", "_law_thing", "_law_grown", "_law_one", "_law_other", "_law_inner_here"]
theorem sc_law_put_lots : FnScope N_law_put_lots ["_law_lots", "_law_rows"] (defScope s_law_put_lots) := ⟨rfl, rfl, rfl, by decide +kernel, rfl, by decide +kernel, by decide +kernel⟩
def p_lput (ds : List D) (l : List D) : Prop := ∃ (n : Nat) (L : List (List Nat)) (rows : Rws), PinOk n L rows ∧ ds = [lsD L, .lst (rows.map famR)] ∧ l = (KM.put L rows).map tD
theorem shares_at {rows : Rws} {e : Nat} (h : e < rows.length) : (KM.shares rows).getD e [] = (KM.rw_ rows e).2.map fun l => l.map fun f => f + KM.stt rows e := KM.shares_get h
theorem rows_at {rows : Rws} {e : Nat} (h : e < rows.length) : (rows.map famR)[e]? = some (famR (KM.rw_ rows e)) := by
  rw [List.getElem?_map, List.getElem?_eq_getElem h, KM.rw_get h]
  rfl
theorem ok_law_put_lots {f : Addr} {fd : FuncData} (F : Fun K "_law_put_lots" "_law_put_lots" s_law_put_lots f fd) (T : Txt mg) (c_law_starts : Cl P w K mg base 1 "_law_starts" (Fresh K p_lstarts)) : FnOk P w K mg base CX0 2 f fd ["_law_lots", "_law_rows"] (Fresh K p_lput) := by
  refine fresh_ok F sc_law_put_lots (fun ds d h => by obtain ⟨_, _, _, _, rfl, _⟩ := h; rfl) (by decide) fun cdv A outer s H E hr => ?_
  have hu := hr.units
  refine ⟨_, (pss_cons (ps_set (i := 2) sc_law_put_lots.nd rfl (Or.inr rfl) (pe_cl c_law_starts hr (by decide) (by rfl) (pa_cons (pv 1) pa_nil)))
    (pss_cons (ps_set (i := 3) sc_law_put_lots.nd rfl (Or.inl rfl) (pe_lst pa_nil))
    (pss_cons (ps_for PassesOwn.never rfl (pi_list (pv 0)) (pg_name (i := 4) sc_law_put_lots.nd rfl (Or.inl rfl))
    (pss_cons (ps_set (i := 5) sc_law_put_lots.nd rfl (Or.inl rfl) (pe_lst (pa_cons (pe_tup pa_nil) pa_nil)))
    (pss_cons (ps_for PassesOwn.never rfl (pi_tup (pv 4)) (pg_name (i := 6) sc_law_put_lots.nd rfl (Or.inr rfl))
    (pss_cons (ps_set (i := 7) sc_law_put_lots.nd rfl (Or.inl rfl) (pe_lst pa_nil))
    (pss_cons (ps_for PassesOwn.never rfl (pi_list (pv 5)) (pg_name (i := 8) sc_law_put_lots.nd rfl (Or.inl rfl))
    (pss_one (ps_for PassesOwn.never rfl (pi_list (pe_ix (r := rIxL K) ix_list (pe_ix (r := rIxL K) ix_list (pv 1) (pv 6) (fun _ _ => rfl)) pe_int (fun _ _ => rfl))) (pg_name (i := 9) sc_law_put_lots.nd rfl (Or.inl rfl))
    (pss_one (ps_expr (pe_bm PySem.F.plainAttrs_list PySem.F.slot_list_append PySem.F.type_list_append mt_append (pv 7) (pa_cons (pe_op (r := rCatA K) op_catA (pv 8) (pe_callTy (r := rTupOf K) call_tupY (by rfl) T.tuple (by decide +kernel) (pa_cons (pe_lc (own := [("_law_inner_here", 10)]) (g := gName 10) rfl sc_law_put_lots.nd (pi_tup (pv 9)) (blkOk_by (N := N_law_put_lots) (sc := defScope s_law_put_lots) (by decide +kernel)) (fun _ _ _ _ _ => pg_name (i := 10) sc_law_put_lots.nd rfl (Or.inl rfl)) (fun _ _ _ _ _ => pts_nil) (fun _ _ _ _ _ => (pe_op op_add (pe_ix (r := rIxL K) ix_list (pv 2) (pv 6) (fun _ _ => rfl)) (pv 10)))) pa_nil))) pa_nil)))))))
    (pss_one (ps_set (i := 5) sc_law_put_lots.nd rfl (Or.inl rfl) (pe_callTy (r := rLstOf K) call_lstY (by rfl) T.list (by decide +kernel) (pa_cons (pv 7) pa_nil)))))))
    (pss_one (ps_set (i := 3) sc_law_put_lots.nd rfl (Or.inl rfl) (pe_op op_cat (pv 3) (pv 5)))))))
    (pss_one (ps_ret (pe_callB (r := rSortY K) (cr_sortY hu) (by rfl) T.sorted (by decide +kernel) (pa_cons (pv 3) pa_nil))))))), ?_⟩
  rintro ds d ⟨n, L, rows, hp, rfl, rfl⟩ De o
  have hc := hp.call
  have hn3 := hc.n3
  have hlen := hc.len
  refine sd_seq (sd_asgL (l := (stL rows).map iD) (ef_call (ea_cons (ep_var (i := 1) (d := .lst (rows.map famR)) rfl) ea_nil) ⟨rows, by omega, rfl, rfl⟩) (imAll_nD _) (sd_go ?_))
  refine sd_seq (sd_asgO (ef_lst ea_nil) rfl fun q3 => sd_go ?_)
  let sh := KM.shares rows
  refine sd_seq (sd_forLW (c := tD) (ts := L) (fun i E => ∃ q, E = [.val (lsD L), .val (.lst (rows.map famR)), .val (nD (stL rows)), .own q ((KM.putL (L.take i) sh).map tD), .no, .no, .no, .no, .no, .no, .no]) (ec_var rfl) ⟨q3, rfl⟩ ?_ ?_)
  · rintro Z' i l E hl ⟨q, rfl⟩
    have hlm : l ∈ L := List.mem_of_getElem? hl
    refine sd_seq (sd_asgO (l := [[]].map tD) (ef_lst (ea_cons (ep_tup (l := []) ea_nil (by show (0 : Nat) ≤ 100000; decide)) ea_nil)) rfl fun q5 => sd_go ?_)
    refine sd_seq (sd_forTW (c := iD) (ts := l) (fun j E => ∃ q5, E = [.val (lsD L), .val (.lst (rows.map famR)), .val (nD (stL rows)), .own q ((KM.putL (L.take i) sh).map tD), .val (tD l), .own q5 ((KM.putR sh (l.take j)).map tD), .no, .no, .no, .no, .no]) (ec_im (ep_is (ep_var (i := 4) (d := tD l) rfl) (tD_eq l)) (by rw [← tD_eq]; exact tD_im l)) ⟨q5, rfl⟩ ?_ ?_)
    · rintro Z2 j e E he ⟨q5, rfl⟩
      have hem : e ∈ l := List.mem_of_getElem? he
      have hes : e < rows.length := hp.p.lt hlm hem
      have hst : KM.putR sh (l.take (j + 1)) = KM.putS sh (KM.putR sh (l.take j)) e := by
        unfold KM.putR
        rw [take_step he, List.foldl_append]
        rfl
      have hr1 := hc.put.rl l hlm j
      have hr2 := hc.put.rl l hlm (j + 1)
      have hr1' : ∀ r ∈ KM.putR sh (l.take j), r.length < 20000 := hr1.2
      have hr2' : (KM.putS sh (KM.putR sh (l.take j)) e).length < 20000 := by rw [← hst]; exact hr2.1
      have hin := hc.inn _ (KM.rw_mem hes)
      rw [hst]
      generalize hM : KM.putR sh (l.take j) = M at hr1' hr2'
      let Ge : List (List Nat) := (KM.rw_ rows e).2
      let G : List Nat → List (List Nat) := fun a => Ge.map fun o => a ++ o.map fun f => f + KM.stt rows e
      have hG : KM.putS sh M e = M.flatMap G := by
        unfold KM.putS
        rw [shares_at hes]
        congr 1
        funext a
        rw [List.map_map]
        rfl
      rw [hG] at hr2'
      refine sd_frz (i := 5) rfl fun zm2 => ?_
      refine sd_seq (sd_asgO (ef_lst ea_nil) rfl fun q7 => sd_go ?_)
      refine sd_seq (sd_forLZ (c := tD) (ts := M) (fun a E => E = [.val (lsD L), .val (.lst (rows.map famR)), .val (nD (stL rows)), .own q ((KM.putL (L.take i) sh).map tD), .val (tD l), .val (.adr q5), .val (iD e), .own q7 (((M.take a).flatMap G).map tD), .no, .no, .no]) (ec_adr (i := 5) rfl fun _ z => z.2) rfl ?_ ?_)
      · rintro Z3 hz3 a one E ha rfl
        have hone : one ∈ M := List.mem_of_getElem? ha
        refine sd_forLZ (c := tD) (ts := Ge) (fun b E => E = [.val (lsD L), .val (.lst (rows.map famR)), .val (nD (stL rows)), .own q ((KM.putL (L.take i) sh).map tD), .val (tD l), .val (.adr q5), .val (iD e), .own q7 (((M.take a).flatMap G ++ (Ge.take b).map fun o => one ++ o.map fun f => f + KM.stt rows e).map tD), .val (tD one), .no, .no])
          (ec_ixL (k := 1) (l := [iD (KM.rw_ rows e).1, lsD (KM.rw_ rows e).2]) (d := lsD Ge) (ec_ixV (k := (e : Int)) (l := rows.map famR) (ec_var (i := 1) rfl) (ep_var (i := 6) (d := iD e) rfl) (atI_nat (rows_at hes))) rfl) (by simp) ?_ ?_
        · rintro Z4 hz4 b oo E hb rfl
          have hoo : oo ∈ Ge := List.mem_of_getElem? hb
          have hol := hin.2 oo hoo
          have hcnt : ((M.take a).flatMap G ++ (Ge.take b).map fun o => one ++ o.map fun f => f + KM.stt rows e).length < 20000 := by
            have h1 : ((M.take (a + 1)).flatMap G).length ≤ (M.flatMap G).length := by
              have := fl_le (l := M) (i := a + 1) fun l => (G l).map tD
              rw [← fm_tD, ← fm_tD, List.length_map, List.length_map] at this
              exact this
            rw [take_step ha, List.flatMap_append, List.length_append] at h1
            have h3 : ([one].flatMap G).length = Ge.length := by simp [G]
            rw [List.length_append, List.length_map, List.length_take]
            omega
          refine sd_app (p := q7) (i := 7) (d := tD (one ++ oo.map fun f => f + KM.stt rows e)) rfl (ep_is (ep_op (ep_is (ep_var (i := 8) (d := tD one) rfl) (tD_eq one)) (ep_cb (ea_cons (EF.p (ef_lcT1 (j := 10) (c := iD) (ts := oo) (fun f => iD (f + KM.stt rows e)) (ep_is (ep_var (i := 9) (d := tD oo) rfl) (tD_eq oo)) (fun _ _ => rfl) (by omega) (fun f hf => ?_) (fun _ _ => rfl))) ea_nil) rc_tupleL) (r2_catA (by rw [List.length_map, List.length_map]; have := hr1' one hone; omega))) (by rw [tD_eq, List.map_append, List.map_map]; rfl)) (tD_im _) (by rw [List.length_map]; omega) (sd_lw rfl ?_)
          · refine ep_is (ep_op (ep_op (ep_var (i := 2) (d := nD (stL rows)) rfl) (ep_var (i := 6) (d := iD e) rfl) (r2_ixL (atI_nat (stL_at hes)))) (ep_var (i := 10) (d := iD f) rfl) r2_int) (by unfold iD; congr 1; omega)
          · have e3 : (((M.take a).flatMap G ++ (Ge.take (b + 1)).map fun o => one ++ o.map fun f => f + KM.stt rows e).map tD) = (((M.take a).flatMap G ++ (Ge.take b).map fun o => one ++ o.map fun f => f + KM.stt rows e).map tD) ++ [tD (one ++ oo.map fun f => f + KM.stt rows e)] := by
              rw [take_step hb]
              simp [List.map_append]
            rw [e3]
            exact .eq (.eq (.eq (.eq (.eq (.eq (.eq (.eq (.eq (.no (.eq .nil))))))))))
        · rintro E rfl
          refine sd_lw rfl ?_
          rw [List.take_length, take_step ha, List.flatMap_append]
          have e4 : ([one].flatMap G) = Ge.map fun o => one ++ o.map fun f => f + KM.stt rows e := by simp [G]
          rw [e4]
          exact .eq (.eq (.eq (.eq (.eq (.eq (.eq (.eq (.no (.no (.no .nil))))))))))
      · rintro E rfl
        rw [List.take_length]
        refine sd_go (sd_asgO (l := (M.flatMap G).map tD) (ef_cb (ea_cons (ep_own (i := 7) rfl) ea_nil) (rf_list (.inr rfl))) (imAll_tD _) fun q' => sd_lwD zm2 ⟨q', rfl⟩ ?_)
        rw [hG]
        exact .eq (.eq (.eq (.eq (.eq (.eq (.no (.no (.no (.no (.no .nil))))))))))
    · rintro E ⟨q5, rfl⟩
      rw [List.take_length]
      have h2 : KM.putL (L.take (i + 1)) sh = KM.putL (L.take i) sh ++ KM.putR sh l := by
        unfold KM.putL
        rw [take_step hl, List.flatMap_append]
        simp
      have h1 : (KM.putL (L.take (i + 1)) sh).length ≤ (KM.putL L sh).length := by
        have := fl_le (l := L) (i := i + 1) fun l => (KM.putR sh l).map tD
        unfold KM.putL
        rw [List.length_flatMap, List.length_flatMap] at this ⊢
        simpa using this
      rw [h2, List.length_append] at h1
      have htl : (KM.putL L sh).length < 20000 := hc.put.tl
      refine sd_go (sd_asgO (l := (KM.putL (L.take (i + 1)) sh).map tD) (ef_is (ef_cat (el_own (i := 3) rfl) (el_own (i := 5) rfl) (by rw [List.length_map, List.length_map]; omega)) (by rw [h2, List.map_append])) (imAll_tD _) fun q' => sd_lw ⟨q', rfl⟩ ?_)
      exact .eq (.eq (.eq (.eq (.no (.no (.no (.no (.no (.no (.no .nil))))))))))
  · rintro E ⟨q, rfl⟩
    rw [List.take_length]
    exact sd_go (sd_retF (ef_cb (ea_cons (ep_own (i := 3) rfl) ea_nil) (rf_sortY hc.put.ne)) o.rt)
end
end Y
set_option Elab.async false
set_option linter.all false
set_option autoImplicit false
set_option maxRecDepth 100000
set_option maxHeartbeats 4000000
namespace KM
def shr (rows : List Rw) (e : Nat) (s : T) : T := ((s.filter fun x => decide (stt rows e ≤ x)).map fun x => x - stt rows e).filter fun x => decide (x < (rw_ rows e).1)
theorem mem_shr {rows : List Rw} {e x : Nat} {s : T} (hx : x < (rw_ rows e).1) : x ∈ shr rows e s ↔ x + stt rows e ∈ s := by
  unfold shr
  rw [List.mem_filter, List.mem_map]
  constructor
  · rintro ⟨⟨y, hy, rfl⟩, _⟩
    obtain ⟨h1, h2⟩ := List.mem_filter.mp hy
    have := of_decide_eq_true h2
    rw [Nat.sub_add_cancel this]
    exact h1
  · intro h
    exact ⟨⟨x + stt rows e, List.mem_filter.mpr ⟨h, decide_eq_true (Nat.le_add_left _ _)⟩, Nat.add_sub_cancel ..⟩, decide_eq_true hx⟩
theorem put_holds {n : Nat} {L : List T} {rows : List Rw} (h : Pin n L rows) (s : T) : holds (put L rows) s = holds L ((List.range n).filter fun e => holds (rw_ rows e).2 (shr rows e s)) := by
  rw [Bool.eq_iff_iff, hp_holds, hp_holds, hp_put h]
  refine hp_mem fun l hl e he => ?_
  have he' := h.lt hl he
  rw [List.mem_filter, List.mem_range, hp_holds]
  have : e < n := by rw [← h.len]; exact he'
  simp only [this, true_and]
  exact (hp_mem fun m hm f hf => (mem_shr ((h.gf he').lt m hm f hf)).symm)
end KM
namespace Y
open PySem L2
section
variable {P : Program} {w : World} {K : PySem.W.Frag} {mg : Str → Option Value} {base : Heap}
/-! law_share_holds -/
abbrev s_law_share_holds : Stmt := topS 60
abbrev N_law_share_holds : List Str := ["_law_rows", "_law_starts_here", "_law_thing", "_law_those", "_law_share", "_law_one"]
theorem sc_law_share_holds : FnScope N_law_share_holds ["_law_rows", "_law_starts_here", "_law_thing", "_law_those"] (defScope s_law_share_holds) := ⟨rfl, rfl, rfl, by decide +kernel, rfl, by decide +kernel, by decide +kernel⟩
def p_lshare (ds : List D) (d : D) : Prop := ∃ (rows : Rws) (e : Nat) (s : List Nat), e < rows.length ∧ s.length < 1000 ∧ LL (KM.rw_ rows e).2 ∧ ds = [.lst (rows.map famR), nD (stL rows), iD e, nD s] ∧ d = .bl (KM.holds (KM.rw_ rows e).2 (KM.shr rows e s))
theorem ok_law_share_holds {f : Addr} {fd : FuncData} (F : Fun K "_law_share_holds" "_law_share_holds" s_law_share_holds f fd) (T : Txt mg) (c_law_holdsS : Cl P w K mg base 2 "_law_holds" (Pure K p_holdsS)) : FnOk P w K mg base CX0 3 f fd ["_law_rows", "_law_starts_here", "_law_thing", "_law_those"] (Pure K p_lshare) := by
  refine pure_ok F sc_law_share_holds (fun ds d h => by obtain ⟨_, _, _, _, _, _, rfl, _⟩ := h; rfl) (by decide) fun cdv A outer s H E hr => ?_
  refine ⟨_, (pss_cons (ps_setLc (i := 4) (own := [("_law_one", 5)]) (g := gName 5) rfl sc_law_share_holds.nd rfl rfl (sw_true rfl rfl rfl (by decide +kernel)) (pi_list (pv 3)) (blkOk_by (N := N_law_share_holds) (sc := defScope s_law_share_holds) (by decide +kernel)) (fun _ _ _ _ _ => pg_name (i := 5) sc_law_share_holds.nd rfl (Or.inl rfl)) (fun _ _ _ _ _ => (pts_one (pt_cmpR op_le (pe_ix (r := rIxL K) ix_list (pv 1) (pv 2) (fun _ _ => rfl)) (pv 5) (nomark _)))) (fun _ _ _ _ _ => (pe_op op_sub (pv 5) (pe_ix (r := rIxL K) ix_list (pv 1) (pv 2) (fun _ _ => rfl)))))
    (pss_one (ps_ret (pe_cl c_law_holdsS hr (by decide) (by rfl) (pa_cons (pe_ix (r := rIxL K) ix_list (pe_ix (r := rIxL K) ix_list (pv 0) (pv 2) (fun _ _ => rfl)) pe_int (fun _ _ => rfl)) (pa_cons (pe_lc (own := [("_law_one", 5)]) (g := gName 5) rfl sc_law_share_holds.nd (pi_list (pv 4)) (blkOk_by (N := N_law_share_holds) (sc := defScope s_law_share_holds) (by decide +kernel)) (fun _ _ _ _ _ => pg_name (i := 5) sc_law_share_holds.nd rfl (Or.inl rfl)) (fun _ _ _ _ _ => (pts_one (pt_cmpR op_lt (pv 5) (pe_ix (r := rIxL K) ix_list (pe_ix (r := rIxL K) ix_list (pv 0) (pv 2) (fun _ _ => rfl)) pe_int (fun _ _ => rfl)) (nomark _)))) (fun _ _ _ _ _ => (pv 5))) pa_nil)))))), ?_⟩
  rintro ds d ⟨rows, e, t, he, ht, hL, rfl, rfl⟩ De o
  have eSt : ∀ {Z : Hp → Prop} {E : List Slot}, E[1]? = some (.val (nD (stL rows))) → E[2]? = some (.val (iD e)) → EP K [] H Z (tOp (rIxL K) (tVar 1) (tVar 2)) E (iD (KM.stt rows e)) := fun {Z E} h1 h2 => ep_op (ep_var h1) (ep_var h2) (r2_ixL (atI_nat (stL_at he)))
  have eRow : ∀ {Z : Hp → Prop} {E : List Slot} {k : Nat} {d : D}, E[0]? = some (.val (.lst (rows.map famR))) → E[2]? = some (.val (iD e)) → ([iD (KM.rw_ rows e).1, lsD (KM.rw_ rows e).2])[k]? = some d → EP K [] H Z (tOp (rIxL K) (tOp (rIxL K) (tVar 0) (tVar 2)) (tC (.int (k : Int)))) E d := fun {Z E k d} h1 h2 hk => ep_op (ep_op (ep_var h1) (ep_var h2) (r2_ixL (d := .lst [iD (KM.rw_ rows e).1, lsD (KM.rw_ rows e).2]) (atI_nat (rows_at he)))) ep_int (r2_ixL (atI_nat hk))
  let t1 : List Nat := (t.filter fun x => decide (KM.stt rows e ≤ x)).map fun x => x - KM.stt rows e
  have ht1 : t1.length < 1000 := by
    simp only [t1]
    rw [List.length_map]
    exact Nat.lt_of_le_of_lt (List.length_filter_le _ _) ht
  refine sd_seq (sd_asgL (l := t1.map iD) (ef_is (ef_lcL (j := 5) (c := iD) (ts := t) (fun x => decide (KM.stt rows e ≤ x)) (fun x => iD (x - KM.stt rows e)) (ep_var (i := 3) (d := nD t) rfl) (fun _ _ => rfl) (by omega) (fun x hx => et_test (ep_is (ep_op (eSt rfl rfl) (ep_var (i := 5) (d := iD x) rfl) (r2_cmp (g := fun i j => decide (i ≤ j)))) (by simp)))
    (fun x hx hf => ep_is (ep_op (ep_var (i := 5) (d := iD x) rfl) (eSt rfl rfl) r2_int) (by have := of_decide_eq_true hf; unfold iD; congr 1; omega)) (fun _ _ _ => rfl)) (by simp only [t1]; rw [List.map_map]; rfl)) (imAll_nD _) (sd_go ?_))
  refine sd_ret (ep_call (ea_cons (eRow (k := 1) (d := lsD (KM.rw_ rows e).2) rfl rfl rfl) (ea_cons (EF.p (ef_lcL (j := 5) (c := iD) (ts := t1) (fun x => decide (x < (KM.rw_ rows e).1)) iD (ep_var (i := 4) (d := nD t1) rfl) (fun _ _ => rfl) (by omega) (fun x hx => et_test (ep_is (ep_op (ep_var (i := 5) (d := iD x) rfl) (eRow (k := 0) (d := iD (KM.rw_ rows e).1) rfl rfl rfl) (r2_cmp (g := fun i j => decide (i < j)))) (by simp))) (fun x _ _ => ep_var (i := 5) rfl) (fun _ _ _ => rfl))) ea_nil)) ⟨_, KM.shr rows e t, _, hL, .inr rfl, rfl, rfl⟩) o.rt
/-! law_held_sets -/
abbrev s_law_held_sets : Stmt := topS 61
abbrev N_law_held_sets : List Str := ["_law_draws_here", "_law_fam", "_law_lots", "_law_rows", "_law_starts_here", "_law_turn", "_law_those", "_law_one", "_law_outer", "_law_thing"]
theorem sc_law_held_sets : FnScope N_law_held_sets ["_law_draws_here", "_law_fam", "_law_lots", "_law_rows"] (defScope s_law_held_sets) := ⟨rfl, rfl, rfl, by decide +kernel, rfl, by decide +kernel, by decide +kernel⟩
def ok_lheld (C : Addr) (ds : List D) : Prop := ∃ (n : Nat) (L : List (List Nat)) (rows : Rws), KM.Pin n L rows ∧ KM.siz rows ≤ 14 ∧ ds = [famD C (KM.siz rows) (KM.put L rows), lsD L, .lst (rows.map famR)]
theorem stL_last (rows : Rws) : atI ((stL rows).map iD) (-1) = some (iD (KM.siz rows)) := by
  have hl : ((stL rows).map iD).length = (KM.starts (rows.map (·.1))).length + 1 := by unfold stL; simp
  unfold atI ixN
  rw [hl, if_neg (by omega), if_pos (by omega)]
  have : ((-1 : Int) + (((KM.starts (rows.map (·.1))).length + 1 : Nat) : Int)).toNat = (KM.starts (rows.map (·.1))).length := by omega
  rw [this]
  unfold stL
  simp
theorem ok_law_held_sets {f C CB : Addr} {fd : FuncData} (F : Fun K "_law_held_sets" "_law_held_sets" s_law_held_sets f fd) (T : Txt mg) (fc : FamC K mg C) (c_law_pick : Cl P w K mg base 1 "_law_pick" (PickP K)) (c_law_starts : Cl P w K mg base 1 "_law_starts" (Fresh K p_lstarts))
    (c_law_share_holds : Cl P w K mg base 3 "_law_share_holds" (Pure K p_lshare)) (c_holds : ClM P w K mg base 4 C "holds" (PureX K (p_holds C) (q_holds C CB))) (c_law_holdsS : Cl P w K mg base 2 "_law_holds" (Pure K p_holdsS)) :
    FnOk P w K mg base CX0 5 f fd ["_law_draws_here", "_law_fam", "_law_lots", "_law_rows"] (DrawP K (ok_lheld C) p_true) := by
  refine draw_ok F sc_law_held_sets (fun ds h => by obtain ⟨_, _, _, _, _, rfl⟩ := h; rfl) (by decide) fun cdv A outer s H E hr => ?_
  refine ⟨_, (pss_cons (ps_set (i := 4) sc_law_held_sets.nd rfl (Or.inr rfl) (pe_cl c_law_starts hr (by decide) (by rfl) (pa_cons (pv 3) pa_nil)))
    (pss_cons (ps_for PassesOwn.never rfl (pi_range1 (by rfl) T.range (pa_cons pe_int pa_nil)) (pg_name (i := 5) sc_law_held_sets.nd rfl (Or.inl rfl))
    (pss_cons (ps_set (i := 6) sc_law_held_sets.nd rfl (Or.inr rfl) (pe_lc (own := [("_law_one", 7)]) (g := gName 7) rfl sc_law_held_sets.nd (pi_range1 (by rfl) T.range (pa_cons (pe_ix (r := rIxL K) ix_list (pv 4) (pe_un un_neg pe_int) (fun _ _ => rfl)) pa_nil)) (blkOk_by (N := N_law_held_sets) (sc := defScope s_law_held_sets) (by decide +kernel)) (fun _ _ _ _ _ => pg_name (i := 7) sc_law_held_sets.nd rfl (Or.inl rfl)) (fun _ _ _ _ _ => (pts_one (pt_cmpR op_gt (pe_cl c_law_pick hr (by decide) (by rfl) (pa_cons (pv 0) (pa_cons pe_int pa_nil))) pe_int (nomark _)))) (fun _ _ _ _ _ => (pv 7))))
    (pss_cons (ps_setLc (i := 8) (own := [("_law_thing", 9)]) (g := gName 9) rfl sc_law_held_sets.nd rfl rfl (sw_true rfl rfl rfl (by decide +kernel)) (pi_range1 (by rfl) T.range (pa_cons (pe_callB (r := rLen K) call_lenY (by rfl) T.len PySem.boot_len (pa_cons (pv 3) pa_nil)) pa_nil)) (blkOk_by (N := N_law_held_sets) (sc := defScope s_law_held_sets) (by decide +kernel)) (fun _ _ _ _ _ => pg_name (i := 9) sc_law_held_sets.nd rfl (Or.inl rfl)) (fun _ _ _ _ _ => (pts_one (pt_val (pe_cl c_law_share_holds hr (by decide) (by rfl) (pa_cons (pv 3) (pa_cons (pv 4) (pa_cons (pv 9) (pa_cons (pv 6) pa_nil)))))))) (fun _ _ _ _ _ => (pv 9)))
    (pss_one (ps_if (pt_cmpR op_ne (pe_clM c_holds fc.ob.cl hr (by decide) takes0 (pv 1) (pa_cons (pv 6) pa_nil)) (pe_cl c_law_holdsS hr (by decide) (by rfl) (pa_cons (pv 2) (pa_cons (pv 8) pa_nil))) (nomark _)) (pss_one (ps_ret pe_bl)) pss_nil)))))
    (pss_one (ps_ret pe_bl)))), ?_⟩
  rintro ds p ⟨n, L, rows, hp, h14, rfl⟩ De o _ ns
  have hlen := hp.len
  have hn := pin_len hp
  have g := KM.put_gf hp
  have hi := gf_in g h14
  have hL := gf_in hp.g (by omega)
  refine sd_seq (sd_asgL (l := (stL rows).map iD) (ef_call (ea_cons (ep_var (i := 3) (d := .lst (rows.map famR)) rfl) ea_nil) ⟨rows, by omega, rfl, rfl⟩) (imAll_nD _) (sd_go ?_))
  let S : List Int → List Slot := fun ns => [dr p ns, .val (famD C (KM.siz rows) (KM.put L rows)), .val (lsD L), .val (.lst (rows.map famR)), .val (nD (stL rows)), .no, .no, .no, .no, .no]
  refine sd_seq (sd_forRW (n := 6) (fun _ E => ∃ ns, E = S ns) (ea_cons ep_int ea_nil) (by decide) ⟨ns, rfl⟩ ?_ ?_)
  · rintro i E hi6 ⟨ns, rfl⟩
    have hd1 : DS (fun ns => [dr p ns, .val (famD C (KM.siz rows) (KM.put L rows)), .val (lsD L), .val (.lst (rows.map famR)), .val (nD (stL rows)), .val (.int i), .no, .no, .no, .no]) 0 p := ⟨fun _ => rfl, fun _ _ => rfl⟩
    refine sd_seq (sd_asgN (S := fun ns => [dr p ns, .val (famD C (KM.siz rows) (KM.put L rows)), .val (lsD L), .val (.lst (rows.map famR)), .val (nD (stL rows)), .val (.int i), .no, .no, .no, .no]) hd1 (en_lcD (i := 0) (j := 7) (n := (KM.siz rows : Int)) hd1 (by decide) (fun _ => by show 7 < 10; decide) (fun _ => ea_cons (ep_op (ep_var (i := 4) (d := nD (stL rows)) rfl) (ep_un (x := .int 1) ep_int r1_neg) (r2_ixL (stL_last rows))) ea_nil) (by omega) (dt_pick (b := 3) (by decide) fun x H Q h => rgt_any h)) (fun d ns hdp => sd_go ?_) ns)
    obtain ⟨xs, hxs, hxl, rfl⟩ := hdp
    have hxa : KM.Asc xs := hxs
    have hxl' : ∀ x ∈ xs, x < KM.siz rows := fun x hx => by have := hxl x hx; omega
    have hxlen := asc_len hxa hxl'
    refine sd_seq (sd_asgL (l := ((List.range n).filter fun e => KM.holds (KM.rw_ rows e).2 (KM.shr rows e xs)).map iD) (ef_is (ef_lcR (j := 9) (n := (rows.length : Int)) (fun e => KM.holds (KM.rw_ rows e).2 (KM.shr rows e xs)) iD (ea_cons (ep_cb (ea_cons (ep_var (i := 3) (d := .lst (rows.map famR)) rfl) ea_nil) rc_lenLn) ea_nil) (by omega)
      (fun e he => et_B (ep_call (ea_cons (ep_var (i := 3) (d := .lst (rows.map famR)) rfl) (ea_cons (ep_var (i := 4) (d := nD (stL rows)) rfl) (ea_cons (ep_var (i := 9) (d := iD e) rfl) (ea_cons (ep_var (i := 6) (d := nD xs) rfl) ea_nil)))) ⟨rows, e, xs, by omega, by omega, ?_, rfl, rfl⟩)) (fun e _ _ => ep_var (i := 9) rfl) (fun _ _ _ => rfl)) (by rw [show ((rows.length : Int)).toNat = n by omega])) (imAll_nD _) (sd_go ?_))
    · have he' : e < rows.length := by omega
      have ge := hp.gf he'
      have := KM.stt_end he'
      exact (gf_in ge (by omega)).LL
    have xnd : xs.Nodup := hxa.imp fun h => Nat.ne_of_lt h
    have hold : holdsM (KM.put L rows) xs = KM.holds L ((List.range n).filter fun e => KM.holds (KM.rw_ rows e).2 (KM.shr rows e xs)) := by
      unfold holdsM
      rw [KM.mask_holds g.g.asc xnd, KM.put_holds hp]
    refine sd_if (et_test (ep_op (ep_meS (ns := ["things", "lots"]) (ep_var (i := 1) (d := famD C (KM.siz rows) (KM.put L rows)) rfl) (by decide) (ea_cons (ep_var (i := 6) (d := nD xs) rfl) ea_nil) ⟨KM.siz rows, KM.put L rows, xs, _, hi, ⟨by omega, xnd, hxl'⟩, .inr rfl, rfl, rfl⟩) (ep_call (ea_cons (ep_var (i := 2) (d := lsD L) rfl) (ea_cons (ep_var (i := 8) (d := nD ((List.range n).filter fun e => KM.holds (KM.rw_ rows e).2 (KM.shr rows e xs))) rfl) ea_nil)) ⟨L, _, _, hL.LL, .inr rfl, rfl, rfl⟩) r2_neB)) (fun h => ?_) (fun _ => sd_lw ⟨ns, rfl⟩ (.eq (.eq (.eq (.eq (.eq (.no (.no (.no (.no (.no .nil)))))))))))
    rw [hold] at h
    simp at h
  · rintro E ⟨ns, rfl⟩
    have hd2 : DS S 0 p := ⟨fun _ => rfl, fun _ _ => rfl⟩
    exact sd_go (sd_retD (S := S) (d := .bl true) hd2 (ec_im ep_bl rfl) o rfl)
end
end Y
set_option Elab.async false
set_option linter.all false
set_option autoImplicit false
set_option maxRecDepth 100000
set_option maxHeartbeats 4000000
namespace Y
open PySem L2
/-- what an except clause asks of a class -/
structure XcG (K : PySem.W.Frag) (C : Addr) : Prop where
  exC : PySem.W.subIn K (.ref C) (.type "BaseException") = some true
  tyC : PySem.W.typeIn K (.ref C) = some (.type "type")
  hd : PySem.W.hasDictIn K C = true
  slf : PySem.W.mroIn K C (.ref C) = some true
theorem ExcK.g {P : Program} {K : PySem.W.Frag} {C f : Addr} {t : Str} (c : ExcK K P C f t) : XcG K C := ⟨c.exC, c.tyC, c.hd, c.slf⟩
theorem ExcS.g {P : Program} {K : PySem.W.Frag} {C f : Addr} {t : Str} (c : ExcS K P C f t) : XcG K C := ⟨c.exC, c.tyC, c.hd, c.slf⟩
theorem ExcZ.g {P : Program} {K : PySem.W.Frag} {C f : Addr} {t : Str} (c : ExcZ K P C f t) : XcG K C := ⟨c.exC, c.tyC, c.hd, c.slf⟩
theorem ExcT.g {P : Program} {K : PySem.W.Frag} {C f : Addr} {t : Str} (c : ExcT K P C f t) : XcG K C := ⟨c.exC, c.tyC, c.hd, c.slf⟩
theorem ExcL.g {P : Program} {K : PySem.W.Frag} {C f : Addr} {t t2 : Str} (c : ExcL K P C f t t2) : XcG K C := ⟨c.exC, c.tyC, c.hd, c.slf⟩
theorem XcG.y {K : PySem.W.Frag} {C : Addr} (c : XcG K C) : PySem.W.exmOne K (.ref C) (.ref C) = some true := by
  obtain ⟨cd, hc, _⟩ := PySem.W.any_some c.hd
  unfold PySem.W.exmOne
  rw [c.exC, if_pos (by decide)]
  unfold PySem.W.kitCls
  show (if ((PySem.W.clsIn K C).isSome && PySem.W.typeIn K (.ref C) == some (.type "type")) = true then PySem.W.mroIn K C (.ref C) else none) = some true
  rw [hc, c.tyC, c.slf]
  rfl
theorem XcG.n {K : PySem.W.Frag} {C C2 : Addr} (c : XcG K C) (h : PySem.W.mroIn K C2 (.ref C) = some false) : PySem.W.exmOne K (.ref C2) (.ref C) = some false := by
  obtain ⟨cd, hc, _⟩ := PySem.W.any_some c.hd
  unfold PySem.W.exmOne
  rw [c.exC, if_pos (by decide)]
  unfold PySem.W.kitCls
  show (if ((PySem.W.clsIn K C).isSome && PySem.W.typeIn K (.ref C) == some (.type "type")) = true then PySem.W.mroIn K C2 (.ref C) else none) = some false
  rw [hc, c.tyC, h]
  rfl
theorem is_fl {K : PySem.W.Frag} {H : Hp} {d : D} (h : d.fl = true) : Is K H d.v d := by
  cases d with
  | non => exact .non
  | bl b => exact .bl b
  | int i => exact .int i
  | str x => exact .str x
  | _ => simp [D.fl] at h
theorem fl_im {d : D} (h : d.fl = true) : d.im = true := by
  cases d with
  | non => rfl
  | bl b => rfl
  | int i => rfl
  | str x => rfl
  | _ => simp [D.fl] at h
section
variable {K : PySem.W.Frag} {H : Hp} {Z : Hp → Prop} {E : List Slot} {De : Ends}
/-- except C as n: word = (n.thing, n.word) -/
theorem wx_two {i j : Nat} {C : Addr} {n : Int} {x : Str} (hij : i ≠ j) (hi : i < E.length) (k : SD K [] H Z tNext De ((E.set j (.val (.tup [.int n, .str x]))).set i .no)) :
    ∀ σ H', Env K [] H Z E σ H' → ∀ d, H' d = some (.xd (xL n x)) → ∀ a, H' a = none → tAsg (tTup (tCons (tXf a (.ref C) (some d) C "thing" (tVar i)) (tCons (tXf a (.ref C) (some d) C "word" (tVar i)) tNil))) (gName j) (unb De i) (σ.set i (some (.ref a))) H' := fun σ H' env d hd a na => by
  have hlen : σ.length = E.length := env.len
  have h5 : (σ.set i (some (V.ref a)))[i]? = some (some (V.ref a)) := List.getElem?_set_self (by rw [hlen]; exact hi)
  refine ⟨_, h5, rfl, rfl, d, _, .int n, rfl, hd, ?_, _, h5, rfl, rfl, d, _, .str x, rfl, hd, ?_, by simp [sizeLine_eq], fun p np' => ?_⟩
  · unfold xL
    rw [L2.lookup_put, if_neg (by decide), L2.lookup_put, if_pos rfl]
  · unfold xL
    rw [L2.lookup_put, if_pos rfl]
  have hs : Is K (upd H' p (.tup [.int n, .str x])) (.ref p) (.tup [.int n, .str x]) := .tup (SqT.of upd_same) (.cons (.int _) (.cons (.str _) .nil))
  have e2 := ((env.ext (Ex.new np')).set (i := j) hs rfl).setNo i
  have es : ((σ.set i (some (V.ref a))).set j (some (V.ref p))).set i none = (σ.set j (some (V.ref p))).set i none := by
    rw [List.set_comm _ _ hij, List.set_set]
  show De.nx (((σ.set i (some (V.ref a))).set j (some (V.ref p))).set i none) _
  rw [es]
  exact k _ _ e2
end
section
variable {P : Program} {w : World} {K : PySem.W.Frag} {mg : Str → Option Value} {base : Heap}
/-! law_step -/
abbrev s_law_step : Stmt := topS 62
abbrev N_law_step : List Str := ["_law_fam", "_law_thing", "_law_word", "_law_told", "why"]
theorem sc_law_step : FnScope N_law_step ["_law_fam", "_law_thing", "_law_word"] (defScope s_law_step) := ⟨rfl, rfl, rfl, by decide +kernel, rfl, by decide +kernel, by decide +kernel⟩
/-- a thing left out or held, or lost -/
inductive Stp (C : Addr) (n t : Nat) (L : List (List Nat)) : Str → D → Prop
  | left (h : KM.leftL t L ≠ []) : Stp C n t L "left" (famD C n (KM.leftL t L))
  | leftX (h : KM.leftL t L = []) : Stp C n t L "left" (.tup [iD t, .str "left"])
  | held (h : [t] ∉ L) : Stp C n t L "held" (famD C n (KM.heldL t L))
  | heldX (h : [t] ∈ L) : Stp C n t L "held" (.tup [iD t, .str "held"])
def p_lstep (C : Addr) (ds : List D) (d : D) : Prop := ∃ (n t : Nat) (L : List (List Nat)) (x : Str), InOk n L ∧ KM.GF n L ∧ t < n ∧ Stp C n t L x d ∧ ds = [famD C n L, iD t, .str x]
theorem ok_law_step {f C CL fL : Addr} {fd : FuncData} (F : Fun K "_law_step" "_law_step" s_law_step f fd) (T : Txt mg) (xL : XcL P K mg "Lost" "lost: thing " " can not be " CL fL) (xfL : XfC K CL) (npL : PySem.W.findIn K (.ref CL) "thing" = some none) (npL2 : PySem.W.findIn K (.ref CL) "word" = some none)
    (c_sub : ClB P w K mg base 7 C .Sub (PureE K (p_sub C) (q_sub C CL))) (c_fdiv : ClB P w K mg base 7 C .FloorDiv (PureE K (p_fdiv C) (q_fdiv C CL))) : FnOk P w K mg base CX0 8 f fd ["_law_fam", "_law_thing", "_law_word"] (Pure K (p_lstep C)) := by
  refine pure_ok F sc_law_step (fun ds d h => by obtain ⟨_, _, _, _, _, _, _, _, rfl⟩ := h; rfl) (by decide) fun cdv A outer s H E hr => ?_
  refine ⟨_, (pss_cons (ps_set (i := 3) sc_law_step.nd rfl (Or.inl rfl) pe_non)
    (pss_cons (ps_try_manyA rfl rfl sc_law_step.nd takes0
      (fun W pn xe tk _ => pss_one (ps_if (pt_cmpR op_eq (pv 2) pe_str (nomark _)) (pss_one (ps_set (i := 3) sc_law_step.nd rfl (Or.inl rfl) (pe_binO c_sub hr (by decide) tk (pv 0) (pv 1)))) (pss_one (ps_set (i := 3) sc_law_step.nd rfl (Or.inl rfl) (pe_binO c_fdiv hr (by decide) tk (pv 0) (pv 1))))))
      (.nam (i := 4) (c := .ref CL) rfl rfl ⟨by rfl, by decide, .inl xL.m⟩ (fun a oe cls d pn hz hf => pss_one (ps_set (i := 3) sc_law_step.nd rfl (Or.inl rfl) (pe_tup (pa_cons (pe_xf xfL npL hz hf (pv 4)) (pa_cons (pe_xf xfL npL2 hz hf (pv 4)) pa_nil))))) .nil))
    (pss_one (ps_ret (pv 3))))), ?_⟩
  rintro ds d ⟨n, t, L, x, hi, g, ht, hst, rfl⟩ De o
  refine sd_seq (sd_asg (d := .non) ep_non rfl (sd_go ?_))
  refine sd_seq ?_
  have fin : ∀ {Z : Hp → Prop} {w' : D}, w' = d → SD K [] H Z (tRet (tVar 3)) De [.val (famD C n L), .val (iD t), .val (.str x), .val w', .no] := fun {Z w'} e => sd_ret (ep_is (ep_var (i := 3) (d := w') rfl) e) o.rt
  cases hst with
  | left h =>
    refine sd_if (et_test (ep_op (ep_var (i := 2) (d := .str "left") rfl) ep_str r2_eqS)) (fun _ => ?_) (fun h => by simp at h)
    exact sd_asg (ep_binO (ns := ["things", "lots"]) (l := [iD n, tsD L]) (ep_var (i := 0) rfl) (ep_var (i := 1) (d := iD t) rfl) ⟨n, t, L, hi, g, ht, h, rfl, rfl⟩) (famD_im _ _ _) (sd_go (fin rfl))
  | leftX h =>
    refine sd_if (et_test (ep_op (ep_var (i := 2) (d := .str "left") rfl) ep_str r2_eqS)) (fun _ => ?_) (fun h => by simp at h)
    refine sd_asgR (er_binO (ns := ["things", "lots"]) (l := [iD n, tsD L]) (ep_var (i := 0) rfl) (ep_var (i := 1) (d := iD t) rfl) ⟨rfl, n, t, L, hi, ht, h, rfl, rfl⟩ fun σ H' env d hd => ?_)
    refine ⟨true, xL.c.g.y, ?_, ?_⟩
    rotate_left
    · intro z
      cases z
    intro _ a na
    exact wx_two (n := (t : Int)) (x := "left") (by decide) (by show 4 < 5; decide) (sd_go (fin rfl)) σ H' env d hd a na
  | held h =>
    refine sd_if (et_test (ep_op (ep_var (i := 2) (d := .str "held") rfl) ep_str r2_eqS)) (fun h => absurd h (by decide)) (fun _ => ?_)
    exact sd_asg (ep_binO (ns := ["things", "lots"]) (l := [iD n, tsD L]) (ep_var (i := 0) rfl) (ep_var (i := 1) (d := iD t) rfl) ⟨n, t, L, hi, g, ht, h, rfl, rfl⟩) (famD_im _ _ _) (sd_go (fin rfl))
  | heldX h =>
    refine sd_if (et_test (ep_op (ep_var (i := 2) (d := .str "held") rfl) ep_str r2_eqS)) (fun h => absurd h (by decide)) (fun _ => ?_)
    refine sd_asgR (er_binO (ns := ["things", "lots"]) (l := [iD n, tsD L]) (ep_var (i := 0) rfl) (ep_var (i := 1) (d := iD t) rfl) ⟨rfl, n, t, L, hi, ht, h, rfl, rfl⟩ fun σ H' env d hd => ?_)
    refine ⟨true, xL.c.g.y, ?_, ?_⟩
    rotate_left
    · intro z
      cases z
    intro _ a na
    exact wx_two (n := (t : Int)) (x := "held") (by decide) (by show 4 < 5; decide) (sd_go (fin rfl)) σ H' env d hd a na
/-! law_put_word -/
abbrev s_law_put_word : Stmt := topS 65
abbrev N_law_put_word : List Str := ["_law_outer", "_law_families", "_law_way", "_law_word", "why"]
theorem sc_law_put_word : FnScope N_law_put_word ["_law_outer", "_law_families", "_law_way"] (defScope s_law_put_word) := ⟨rfl, rfl, rfl, by decide +kernel, rfl, by decide +kernel, by decide +kernel⟩
inductive PW (C CN CF CZ : Addr) (a b : D) : D → Prop
  | good {d : D} (h : p_fcall C [a, b] d) : PW C CN CF CZ a b (wI "good" 0)
  | fam {k : Int} (h : q_fcallE C CN CF CZ [a, b] CF (xP k)) : PW C CN CF CZ a b (wI "family" k)
  | size {k : Int} (h : q_fcallE C CN CF CZ [a, b] CZ (xS k)) : PW C CN CF CZ a b (wI "size" k)
  | number {t : Str} (h : q_fcallE C CN CF CZ [a, b] CN (xW t)) : PW C CN CF CZ a b (wS "number" t)
def p_pword (C CN CF CZ : Addr) (ds : List D) (d : D) : Prop := ∃ (n : Nat) (L : List (List Nat)) (b : D) (way : Nat), PW C CN CF CZ (famD C n L) b d ∧ ds = [famD C n L, b, iD way]
theorem ok_law_put_word {f C CN fN CF fF CZ fZ CT : Addr} {fd : FuncData} (F : Fun K "_law_put_word" "_law_put_word" s_law_put_word f fd) (T : Txt mg) (xF : XcK P K mg "BadFamily" "bad family: place " CF fF) (xZ : XcZ P K mg "OtherSize" "other size: " CZ fZ) (xN : XcS P K mg "BadNumber" "bad number: " CN fN) (hT : mg "Trouble" = some (.ref CT))
    (xfF : XfC K CF) (npF : PySem.W.findIn K (.ref CF) "place" = some none) (xfZ : XfC K CZ) (npZ : PySem.W.findIn K (.ref CZ) "size" = some none) (xfN : XfC K CN) (npN : PySem.W.findIn K (.ref CN) "word" = some none)
    (nZF : PySem.W.mroIn K CZ (.ref CF) = some false) (nNF : PySem.W.mroIn K CN (.ref CF) = some false) (nNZ : PySem.W.mroIn K CN (.ref CZ) = some false)
    (c_put_in : ClX P w K mg base 8 "put_in" (PureE K (p_fcall C) (q_fcallE C CN CF CZ))) (c_call : ClC P w K mg base 7 C (PureE K (p_fcall C) (q_fcallE C CN CF CZ))) : FnOk P w K mg base CX0 9 f fd ["_law_outer", "_law_families", "_law_way"] (Pure K (p_pword C CN CF CZ)) := by
  refine pure_ok F sc_law_put_word (fun ds d h => by obtain ⟨_, _, _, _, _, rfl⟩ := h; rfl) (by decide) fun cdv A outer s H E hr => ?_
  refine ⟨_, (pss_cons (ps_set (i := 3) sc_law_put_word.nd rfl (Or.inl rfl) (pe_tup (pa_cons pe_str (pa_cons pe_int pa_nil))))
    (pss_cons (ps_try_manyA rfl rfl sc_law_put_word.nd takes0
      (fun W pn xe tk _ => pss_one (ps_if (pt_cmpR op_eq (pv 2) pe_int (nomark _)) (pss_one (ps_expr (pe_clX c_put_in hr (by decide) (by rfl) tk (pa_cons (pv 0) (pa_cons (pv 1) pa_nil))))) (pss_one (ps_expr (pe_clC c_call hr (by decide) tk (pv 0) (pa_cons (pv 1) pa_nil))))))
      (.nam (i := 4) (c := .ref CF) rfl rfl ⟨by rfl, by decide, .inl xF.m⟩ (fun a oe cls d pn hz hf => pss_one (ps_set (i := 3) sc_law_put_word.nd rfl (Or.inl rfl) (pe_tup (pa_cons pe_str (pa_cons (pe_xf xfF npF hz hf (pv 4)) pa_nil)))))
      (.nam (i := 4) (c := .ref CZ) rfl rfl ⟨by rfl, by decide, .inl xZ.m⟩ (fun a oe cls d pn hz hf => pss_one (ps_set (i := 3) sc_law_put_word.nd rfl (Or.inl rfl) (pe_tup (pa_cons pe_str (pa_cons (pe_xf xfZ npZ hz hf (pv 4)) pa_nil)))))
      (.nam (i := 4) (c := .ref CN) rfl rfl ⟨by rfl, by decide, .inl xN.m⟩ (fun a oe cls d pn hz hf => pss_one (ps_set (i := 3) sc_law_put_word.nd rfl (Or.inl rfl) (pe_tup (pa_cons pe_str (pa_cons (pe_xf xfN npN hz hf (pv 4)) pa_nil)))))
      (.one (c := .ref CT) ⟨by rfl, by decide, .inl hT⟩ (fun a oe cls d pn hz hf => pss_one (ps_set (i := 3) sc_law_put_word.nd rfl (Or.inl rfl) (pe_tup (pa_cons pe_str (pa_cons pe_int pa_nil))))) .nil)))))
    (pss_one (ps_ret (pv 3))))), ?_⟩
  rintro ds d ⟨n, L, b, way, hw, rfl⟩ De o
  refine sd_seq (sd_asg (d := wI "good" 0) (ep_tup (ea_cons ep_str (ea_cons ep_int ea_nil))) rfl (sd_go ?_))
  refine sd_seq ?_
  have fin : ∀ {Z : Hp → Prop} {w' : D}, w' = d → SD K [] H Z (tRet (tVar 3)) De [.val (famD C n L), .val b, .val (iD way), .val w', .no] := fun {Z w'} e => sd_ret (ep_is (ep_var (i := 3) (d := w') rfl) e) o.rt
  have e1 : EA K [] H (fun _ => True) (tCons (tVar 0) (tCons (tVar 1) tNil)) [.val (famD C n L), .val b, .val (iD way), .val (wI "good" 0), .no] [famD C n L, b] := ea_cons (ep_var rfl) (ea_cons (ep_var rfl) ea_nil)
  have e2 : EA K [] H (fun _ => True) (tCons (tVar 1) tNil) [.val (famD C n L), .val b, .val (iD way), .val (wI "good" 0), .no] [b] := ea_cons (ep_var rfl) ea_nil
  have e0 : EP K [] H (fun _ => True) (tVar 0) [.val (famD C n L), .val b, .val (iD way), .val (wI "good" 0), .no] (.ins C ["things", "lots"] [iD n, tsD L]) := ep_var (d := famD C n L) rfl
  have tst : ∀ {Z : Hp → Prop}, ET K [] H Z (tTest (tOp rEq (tVar 2) (tC (.int 0)))) [.val (famD C n L), .val b, .val (iD way), .val (wI "good" 0), .no] (way == 0) := fun {Z} => et_test (ep_op (ep_var (i := 2) (d := iD way) rfl) ep_n0 r2_eqN)
  cases hw with
  | @good d' h =>
    refine sd_if tst (fun _ => sd_drop (d := d') (ep_callES e1 h) (sd_go (fin rfl))) (fun _ => sd_drop (d := d') (ep_callO e0 e2 h) (sd_go (fin rfl)))
  | @fam k h =>
    refine sd_if tst (fun _ => sd_dropR (er_callE e1 h fun σ H' env d hd => ?_)) (fun _ => sd_dropR (er_callO e0 e2 h fun σ H' env d hd => ?_)) <;> (
      refine ⟨true, xF.c.g.y, ?_, ?_⟩
      rotate_left
      · intro z
        cases z
      intro _ a na
      exact wx_word (v := .int k) (dv := .int k) (fun _ => .int k) rfl (by decide) (by show 4 < 5; decide) (sd_go (fin rfl)) σ H' env d hd a na)
  | @size k h =>
    refine sd_if tst (fun _ => sd_dropR (er_callE e1 h fun σ H' env d hd => ?_)) (fun _ => sd_dropR (er_callO e0 e2 h fun σ H' env d hd => ?_)) <;> (
      refine ⟨false, xF.c.g.n nZF, ?_, ?_⟩
      · intro z
        cases z
      intro _
      refine ⟨true, xZ.c.g.y, ?_, ?_⟩
      rotate_left
      · intro z
        cases z
      intro _ a na
      exact wx_word (v := .int k) (dv := .int k) (fun _ => .int k) rfl (by decide) (by show 4 < 5; decide) (sd_go (fin rfl)) σ H' env d hd a na)
  | @number t h =>
    refine sd_if tst (fun _ => sd_dropR (er_callE e1 h fun σ H' env d hd => ?_)) (fun _ => sd_dropR (er_callO e0 e2 h fun σ H' env d hd => ?_)) <;> (
      refine ⟨false, xF.c.g.n nNF, ?_, ?_⟩
      · intro z
        cases z
      intro _
      refine ⟨false, xZ.c.g.n nNZ, ?_, ?_⟩
      · intro z
        cases z
      intro _
      refine ⟨true, xN.c.g.y, ?_, ?_⟩
      rotate_left
      · intro z
        cases z
      intro _ a na
      exact wx_word (v := .str t) (dv := .str t) (fun _ => .str t) rfl (by decide) (by show 4 < 5; decide) (sd_go (fin rfl)) σ H' env d hd a na)
/-! law_place_word -/
abbrev s_law_place_word : Stmt := topS 66
abbrev N_law_place_word : List Str := ["_law_families", "_law_one", "_law_two", "_law_word", "why"]
theorem sc_law_place_word : FnScope N_law_place_word ["_law_families", "_law_one", "_law_two"] (defScope s_law_place_word) := ⟨rfl, rfl, rfl, by decide +kernel, rfl, by decide +kernel, by decide +kernel⟩
inductive PL (C CF CT : Addr) (a b c : D) : D → Prop
  | fam {k : Int} (h : q_place C CF CT [a, b, c] CF (xP k)) : PL C CF CT a b c (wI "family" k)
  | thing {y : D} (hy : y.fl = true) (h : q_place C CF CT [a, b, c] CT (xT y.v)) : PL C CF CT a b c (.tup [.str "thing", y])
def p_plword (C CF CT : Addr) (ds : List D) (d : D) : Prop := ∃ a b c : D, PL C CF CT a b c d ∧ ds = [a, b, c]
theorem ok_law_place_word {f C CF fF CT fT : Addr} {fd : FuncData} (F : Fun K "_law_place_word" "_law_place_word" s_law_place_word f fd) (T : Txt mg) (xF : XcK P K mg "BadFamily" "bad family: place " CF fF) (xT : XcT P K mg "BadThing" "bad thing" CT fT)
    (xfF : XfC K CF) (npF : PySem.W.findIn K (.ref CF) "place" = some none) (xfT : XfC K CT) (npT : PySem.W.findIn K (.ref CT) "thing" = some none) (nTF : PySem.W.mroIn K CT (.ref CF) = some false)
    (c_place_of : ClX P w K mg base 4 "place_of" (PureE K (p_place C) (q_place C CF CT))) : FnOk P w K mg base CX0 5 f fd ["_law_families", "_law_one", "_law_two"] (Pure K (p_plword C CF CT)) := by
  refine pure_ok F sc_law_place_word (fun ds d h => by obtain ⟨_, _, _, _, rfl⟩ := h; rfl) (by decide) fun cdv A outer s H E hr => ?_
  refine ⟨_, (pss_cons (ps_set (i := 3) sc_law_place_word.nd rfl (Or.inl rfl) (pe_tup (pa_cons pe_str (pa_cons pe_int pa_nil))))
    (pss_cons (ps_try_manyA rfl rfl sc_law_place_word.nd takes0
      (fun W pn xe tk _ => pss_one (ps_expr (pe_clX c_place_of hr (by decide) (by rfl) tk (pa_cons (pv 0) (pa_cons (pv 1) (pa_cons (pv 2) pa_nil))))))
      (.nam (i := 4) (c := .ref CF) rfl rfl ⟨by rfl, by decide, .inl xF.m⟩ (fun a oe cls d pn hz hf => pss_one (ps_set (i := 3) sc_law_place_word.nd rfl (Or.inl rfl) (pe_tup (pa_cons pe_str (pa_cons (pe_xf xfF npF hz hf (pv 4)) pa_nil)))))
      (.nam (i := 4) (c := .ref CT) rfl rfl ⟨by rfl, by decide, .inl xT.m⟩ (fun a oe cls d pn hz hf => pss_one (ps_set (i := 3) sc_law_place_word.nd rfl (Or.inl rfl) (pe_tup (pa_cons pe_str (pa_cons (pe_xf xfT npT hz hf (pv 4)) pa_nil))))) .nil)))
    (pss_one (ps_ret (pv 3))))), ?_⟩
  rintro ds d ⟨a, b, c, hw, rfl⟩ De o
  refine sd_seq (sd_asg (d := wI "good" 0) (ep_tup (ea_cons ep_str (ea_cons ep_int ea_nil))) rfl (sd_go ?_))
  refine sd_seq ?_
  have fin : ∀ {Z : Hp → Prop} {w' : D}, w' = d → SD K [] H Z (tRet (tVar 3)) De [.val a, .val b, .val c, .val w', .no] := fun {Z w'} e => sd_ret (ep_is (ep_var (i := 3) (d := w') rfl) e) o.rt
  have e1 : EA K [] H (fun _ => True) (tCons (tVar 0) (tCons (tVar 1) (tCons (tVar 2) tNil))) [.val a, .val b, .val c, .val (wI "good" 0), .no] [a, b, c] := ea_cons (ep_var rfl) (ea_cons (ep_var rfl) (ea_cons (ep_var rfl) ea_nil))
  cases hw with
  | @fam k h =>
    refine sd_dropR (er_callE e1 h fun σ H' env d hd => ?_)
    refine ⟨true, xF.c.g.y, ?_, ?_⟩
    rotate_left
    · intro z
      cases z
    intro _ a na
    exact wx_word (v := .int k) (dv := .int k) (fun _ => .int k) rfl (by decide) (by show 4 < 5; decide) (sd_go (fin rfl)) σ H' env d hd a na
  | @thing y hy h =>
    refine sd_dropR (er_callE e1 h fun σ H' env d hd => ?_)
    refine ⟨false, xF.c.g.n nTF, ?_, ?_⟩
    · intro z
      cases z
    intro _
    refine ⟨true, xT.c.g.y, ?_, ?_⟩
    rotate_left
    · intro z
      cases z
    intro _ a na
    exact wx_word (v := y.v) (dv := y) (fun _ => is_fl hy) (fl_im hy) (by decide) (by show 4 < 5; decide) (sd_go (fin rfl)) σ H' env d hd a na
end
end Y
set_option Elab.async false
set_option linter.all false
set_option autoImplicit false
set_option maxRecDepth 100000
set_option maxHeartbeats 4000000
namespace Y
open PySem L2
/-- what becomes of one thing less -/
inductive Ls (C : Addr) (n e a : Nat) (L : List (List Nat)) (rows : Rws) (x : Str) : Prop
  | in_ (M Q : List (List Nat)) (h1 : Stp C (KM.siz rows) (KM.stt rows e + a) (KM.put L rows) x (famD C (KM.siz rows) Q)) (h2 : Stp C (KM.rw_ rows e).1 a (KM.rw_ rows e).2 x (famD C (KM.rw_ rows e).1 M)) (g : KM.GF (KM.rw_ rows e).1 M) (eq : Q = KM.put L (rows.set e ((KM.rw_ rows e).1, M)))
  | out (L' Q : List (List Nat)) (h1 : Stp C (KM.siz rows) (KM.stt rows e + a) (KM.put L rows) x (famD C (KM.siz rows) Q)) (h2 : Stp C (KM.rw_ rows e).1 a (KM.rw_ rows e).2 x (.tup [iD a, .str x])) (h3 : Stp C n e L x (famD C n L')) (g : KM.GF n L') (eq : Q = KM.put L' rows)
  | lost (h1 : Stp C (KM.siz rows) (KM.stt rows e + a) (KM.put L rows) x (.tup [iD (KM.stt rows e + a), .str x])) (h2 : Stp C (KM.rw_ rows e).1 a (KM.rw_ rows e).2 x (.tup [iD a, .str x])) (h3 : Stp C n e L x (.tup [iD e, .str x]))
theorem ls_left {C : Addr} {n e a : Nat} {L : List (List Nat)} {rows : Rws} (h : KM.Pin n L rows) (he : e < rows.length) (ha : a < (KM.rw_ rows e).1) : Ls C n e a L rows "left" := by
  by_cases z : KM.leftL a (KM.rw_ rows e).2 = []
  · obtain ⟨o1, o2⟩ := KM.left_out h he ha z
    by_cases w : KM.leftL e L = []
    · exact .lost (.leftX (o1 w)) (.leftX z) (.leftX w)
    · obtain ⟨o3, o4⟩ := o2 w
      exact .out _ _ (.left o3) (.leftX z) (.left w) (KM.left_gf h.g w) o4
  · obtain ⟨o3, o4⟩ := KM.left_in h he ha z
    exact .in_ _ _ (.left o3) (.left z) (KM.left_gf (h.gf he) z) o4
theorem ls_held {C : Addr} {n e a : Nat} {L : List (List Nat)} {rows : Rws} (h : KM.Pin n L rows) (he : e < rows.length) (ha : a < (KM.rw_ rows e).1) : Ls C n e a L rows "held" := by
  by_cases z : [a] ∈ (KM.rw_ rows e).2
  · by_cases w : [e] ∈ L
    · exact .lost (.heldX ((KM.held_lost h he ha).mpr ⟨z, w⟩)) (.heldX z) (.heldX w)
    · obtain ⟨o3, o4⟩ := KM.held_out h he ha z w
      exact .out _ _ (.held o3) (.heldX z) (.held w) (KM.held_gf h.g w) o4
  · obtain ⟨o3, o4⟩ := KM.held_in h he ha z
    exact .in_ _ _ (.held o3) (.held z) (KM.held_gf (h.gf he) z) o4
theorem fms_set {C : Addr} {rows : Rws} {e : Nat} {r : Nat × List (List Nat)} (he : e < rows.length) : ((fms C rows).drop 0).take (e - 0) ++ [famD C r.1 r.2] ++ (fms C rows).drop (e + 1) = fms C (rows.set e r) := by
  unfold fms
  rw [List.set_eq_take_append_cons_drop, if_pos he, List.drop_zero, Nat.sub_zero, List.map_append, List.map_cons, List.map_take, List.map_drop]
  simp
theorem fms_at {C : Addr} {rows : Rws} {e : Nat} (he : e < rows.length) : (fms C rows)[e]? = some (famD C (KM.rw_ rows e).1 (KM.rw_ rows e).2) := by
  rw [KM.rw_get he]
  unfold fms
  rw [List.getElem?_map, List.getElem?_eq_getElem he]
  rfl
theorem is_cmp (n : Nat) (x : Str) (h : (D.str x).so = true) : Cmpb (.tup [iD n, .str x]) := ⟨rfl, by simp [D.so, soAll, iD] at h ⊢; exact h, by simp [D.dep, depAll, iD]⟩
section
variable {P : Program} {w : World} {K : PySem.W.Frag} {mg : Str → Option Value} {base : Heap}
/-! law_one_less -/
abbrev s_law_one_less : Stmt := topS 63
abbrev N_law_one_less : List Str := ["_law_fam", "_law_outer", "_law_inner_here", "_law_thing", "_law_at", "_law_start", "_law_word", "_law_told", "_law_part_in", "_law_changed", "_law_rest"]
theorem sc_law_one_less : FnScope N_law_one_less ["_law_fam", "_law_outer", "_law_inner_here", "_law_thing", "_law_at", "_law_start"] (defScope s_law_one_less) := ⟨rfl, rfl, rfl, by decide +kernel, rfl, by decide +kernel, by decide +kernel⟩
def p_less (C : Addr) (ds : List D) (d : D) : Prop := ∃ (n e a : Nat) (L : List (List Nat)) (rows : Rws), KM.Pin n L rows ∧ KM.siz rows ≤ 14 ∧ e < rows.length ∧ a < (KM.rw_ rows e).1 ∧ ds = [famD C (KM.siz rows) (KM.put L rows), famD C n L, .lst (fms C rows), iD e, iD a, iD (KM.stt rows e)] ∧ d = .bl true
theorem ok_law_one_less {f C CN CF CZ : Addr} {fd : FuncData} (F : Fun K "_law_one_less" "_law_one_less" s_law_one_less f fd) (T : Txt mg) (fc : FamC K mg C) (ni : NotI K C) (c_law_step : Cl P w K mg base 8 "_law_step" (Pure K (p_lstep C))) (c_call : ClC P w K mg base 7 C (PureE K (p_fcall C) (q_fcallE C CN CF CZ)))
    (c_eq : ClO P w K mg base 1 C "__eq__" (Pure K (p_eq C))) (hnf : PySem.W.notFirst K C (.ref C) = true) : FnOk P w K mg base CX0 9 f fd ["_law_fam", "_law_outer", "_law_inner_here", "_law_thing", "_law_at", "_law_start"] (Pure K (p_less C)) := by
  refine pure_ok F sc_law_one_less (fun ds d h => by obtain ⟨_, _, _, _, _, _, _, _, _, rfl, _⟩ := h; rfl) (by decide) fun cdv A outer s H E hr => ?_
  have hu := hr.units
  refine ⟨_, (pss_cons (ps_for PassesOwn.never rfl (pi_list (pe_lst (pa_cons pe_str (pa_cons pe_str pa_nil)))) (pg_name (i := 6) sc_law_one_less.nd rfl (Or.inl rfl))
    (pss_cons (ps_set (i := 7) sc_law_one_less.nd rfl (Or.inl rfl) (pe_cl c_law_step hr (by decide) (by rfl) (pa_cons (pv 0) (pa_cons (pe_op op_add (pv 5) (pv 4)) (pa_cons (pv 6) pa_nil)))))
    (pss_cons (ps_set (i := 8) sc_law_one_less.nd rfl (Or.inl rfl) (pe_cl c_law_step hr (by decide) (by rfl) (pa_cons (pe_ix (r := rIxL K) ix_list (pv 2) (pv 3) (fun _ _ => rfl)) (pa_cons (pv 4) (pa_cons (pv 6) pa_nil)))))
    (pss_one (ps_if (pt_val (pe_callB (r := rIsi K) call_isi (by rfl) T.isinstance (by decide +kernel) (pa_cons (pv 8) (pa_cons (pe_glob (v := .ref C) (by rfl) fc.m rfl) pa_nil)))) (pss_cons (ps_set (i := 9) sc_law_one_less.nd rfl (Or.inl rfl) (pe_op op_cat (pe_op op_cat (pe_slice (r := rSlL K) sl_list (pv 2) (po_some pe_int) (po_some (pv 3))) (pe_lst (pa_cons (pv 8) pa_nil))) (pe_slice (r := rSlL K) sl_list (pv 2) (po_some (pe_op op_add (pv 3) pe_int)) po_none)))
    (pss_one (ps_if (pw_or (pt_not (pt_val (pe_callB (r := rIsi K) call_isi (by rfl) T.isinstance (by decide +kernel) (pa_cons (pv 7) (pa_cons (pe_glob (v := .ref C) (by rfl) fc.m rfl) pa_nil))))) (pw_or1 (pt_not (pt_cmpR (r := rEqO K C (Pure K (p_eq C))) (op_clO c_eq hnf hr (by decide)) (pv 7) (pe_clC c_call hr (by decide) takes0 (pv 1) (pa_cons (pv 9) pa_nil)) (nomark _))))).pt (pss_one (ps_ret pe_bl)) pss_nil))) (pss_cons (ps_set (i := 10) sc_law_one_less.nd rfl (Or.inl rfl) (pe_cl c_law_step hr (by decide) (by rfl) (pa_cons (pv 1) (pa_cons (pv 3) (pa_cons (pv 6) pa_nil)))))
    (pss_one (ps_if (pt_val (pe_callB (r := rIsi K) call_isi (by rfl) T.isinstance (by decide +kernel) (pa_cons (pv 10) (pa_cons (pe_glob (v := .ref C) (by rfl) fc.m rfl) pa_nil)))) (pss_one (ps_if (pw_or (pt_not (pt_val (pe_callB (r := rIsi K) call_isi (by rfl) T.isinstance (by decide +kernel) (pa_cons (pv 7) (pa_cons (pe_glob (v := .ref C) (by rfl) fc.m rfl) pa_nil))))) (pw_or1 (pt_not (pt_cmpR (r := rEqO K C (Pure K (p_eq C))) (op_clO c_eq hnf hr (by decide)) (pv 7) (pe_clC c_call hr (by decide) takes0 (pv 10) (pa_cons (pv 2) pa_nil)) (nomark _))))).pt (pss_one (ps_ret pe_bl)) pss_nil)) (pss_one (ps_if (pw_or (pt_cmpR (r := rNeD K) (op_neD hu) (pv 7) (pe_tup (pa_cons (pe_op op_add (pv 5) (pv 4)) (pa_cons (pv 6) pa_nil))) (nomark _)) (pw_or1 (pt_cmpR (r := rNeD K) (op_neD hu) (pv 10) (pe_tup (pa_cons (pv 3) (pa_cons (pv 6) pa_nil))) (nomark _)))).pt (pss_one (ps_ret pe_bl)) pss_nil))))))))))
    (pss_one (ps_ret pe_bl))), ?_⟩
  rintro ds d ⟨n, e, a, L, rows, hp, h14, he, ha, rfl, rfl⟩ De o
  have hn := pin_len hp
  have hlen := hp.len
  have g := KM.put_gf hp
  have ge := hp.gf he
  have hx := KM.stt_lt he ha
  have hend := KM.stt_end he
  have im14 := gf_in g h14
  refine sd_seq (sd_forLP (c := D.str) (ts := ["left", "held"]) (fun _ => True) (ec_new (l := [("left" : Str), "held"].map D.str) (ef_lst (ea_cons ep_str (ea_cons ep_str ea_nil))) rfl) (fun _ => [.val (famD C (KM.siz rows) (KM.put L rows)), .val (famD C n L), .val (.lst (fms C rows)), .val (iD e), .val (iD a), .val (iD (KM.stt rows e)), .no, .no, .no, .no, .no]) rfl trivial (fun Z' i x hxi _ => ?_) (fun _ => sd_go (sd_ret ep_bl o.rt)))
  have hls : Ls C n e a L rows x ∧ (D.str x).so = true := by
    rcases i with _ | _ | i
    · cases hxi
      exact ⟨ls_left hp he ha, by decide +kernel⟩
    · cases hxi
      exact ⟨ls_held hp he ha, by decide +kernel⟩
    · simp at hxi
  obtain ⟨hls, hso⟩ := hls
  have eX : ∀ {Z : Hp → Prop} {E : List Slot}, E[5]? = some (.val (iD (KM.stt rows e))) → E[4]? = some (.val (iD a)) → EP K [] H Z (tOp (rI0 fun i j => .int (i + j)) (tVar 5) (tVar 4)) E (iD (KM.stt rows e + a)) := fun {Z E} h1 h2 => ep_is (ep_op (ep_var h1) (ep_var h2) r2_int) (by unfold iD; rw [Int.natCast_add])
  -- the three steps asked
  have step1 : ∀ {d : D}, Stp C (KM.siz rows) (KM.stt rows e + a) (KM.put L rows) x d → p_lstep C [famD C (KM.siz rows) (KM.put L rows), iD (KM.stt rows e + a), .str x] d := fun {d} h => ⟨_, _, _, _, im14, g, hx, h, rfl⟩
  have step2 : ∀ {d : D}, Stp C (KM.rw_ rows e).1 a (KM.rw_ rows e).2 x d → p_lstep C [famD C (KM.rw_ rows e).1 (KM.rw_ rows e).2, iD a, .str x] d := fun {d} h => ⟨_, _, _, _, gf_in ge (by omega), ge, ha, h, rfl⟩
  have step3 : ∀ {d : D}, Stp C n e L x d → p_lstep C [famD C n L, iD e, .str x] d := fun {d} h => ⟨_, _, _, _, gf_in hp.g (by omega), hp.g, by omega, h, rfl⟩
  let S : D → D → D → D → List Slot := fun told part ch rest => [.val (famD C (KM.siz rows) (KM.put L rows)), .val (famD C n L), .val (.lst (fms C rows)), .val (iD e), .val (iD a), .val (iD (KM.stt rows e)), .val (.str x), .val told, .val part, .no, .no]
  have first : ∀ {told part : D} {t : TS}, Stp C (KM.siz rows) (KM.stt rows e + a) (KM.put L rows) x told → Stp C (KM.rw_ rows e).1 a (KM.rw_ rows e).2 x part → told.im = true → part.im = true →
      ∀ {De : Ends}, SD K [] H Z' t De [.val (famD C (KM.siz rows) (KM.put L rows)), .val (famD C n L), .val (.lst (fms C rows)), .val (iD e), .val (iD a), .val (iD (KM.stt rows e)), .val (.str x), .val told, .val part, .no, .no] →
      SD K [] H Z' (tSeq (tAsg (tCall (Pure K (p_lstep C)) [] E0 (tCons (tVar 0) (tCons (tOp (rI0 fun i j => .int (i + j)) (tVar 5) (tVar 4)) (tCons (tVar 6) tNil)))) (gName 7)) (tSeq (tAsg (tCall (Pure K (p_lstep C)) [] E0 (tCons (tOp (rIxL K) (tVar 2) (tVar 3)) (tCons (tVar 4) (tCons (tVar 6) tNil)))) (gName 8)) t)) De
        [.val (famD C (KM.siz rows) (KM.put L rows)), .val (famD C n L), .val (.lst (fms C rows)), .val (iD e), .val (iD a), .val (iD (KM.stt rows e)), .val (.str x), .no, .no, .no, .no] := fun {told part t} h1 h2 i1 i2 {De} k => by
    refine sd_seq (sd_asg (d := told) (ep_call (ea_cons (ep_var (i := 0) rfl) (ea_cons (eX rfl rfl) (ea_cons (ep_var (i := 6) (d := .str x) rfl) ea_nil))) (step1 h1)) i1 (sd_go ?_))
    exact sd_seq (sd_asg (d := part) (ep_call (ea_cons (ep_op (ep_var (i := 2) (d := .lst (fms C rows)) rfl) (ep_var (i := 3) (d := iD e) rfl) (r2_ixL (atI_nat (fms_at he)))) (ea_cons (ep_var (i := 4) (d := iD a) rfl) (ea_cons (ep_var (i := 6) (d := .str x) rfl) ea_nil))) (step2 h2)) i2 (sd_go k))
  have tim : ∀ (m : Nat), (D.tup [iD m, .str x]).im = true := fun _ => rfl
  cases hls with
  | in_ M Q h1 h2 gM eq =>
    refine first h1 h2 (famD_im _ _ _) (famD_im _ _ _) ?_
    have p' : KM.Pin n L (rows.set e ((KM.rw_ rows e).1, M)) := hp.set gM
    have hs' : KM.siz (rows.set e ((KM.rw_ rows e).1, M)) = KM.siz rows := KM.set_siz (r := ((KM.rw_ rows e).1, M)) he rfl
    have pk := pin_ok p' (by rw [hs']; exact h14)
    refine sd_if (et_B (ep_isiO (ns := ["things", "lots"]) (l := [iD (KM.rw_ rows e).1, tsD M]) (ep_var (i := 8) rfl) fc.ob)) (fun _ => ?_) (fun h => by cases h)
    refine sd_seq (sd_asgL (l := fms C (rows.set e ((KM.rw_ rows e).1, M))) (ef_is (ef_cat (el_new (ef_cat (el_new (ef_slAB (a := 0) (b := e) (ep_var (i := 2) (d := .lst (fms C rows)) rfl) ep_n0 (ep_var (i := 3) (d := iD e) rfl) (Nat.zero_le _) (by rw [fms_len]; omega))) (el_new (ef_lst (ea_cons (ep_var (i := 8) (d := famD C (KM.rw_ rows e).1 M) rfl) ea_nil))) ?_)) (el_new (ef_slA (a := e + 1) (ep_var (i := 2) (d := .lst (fms C rows)) rfl) (ep_is (ep_op (ep_var (i := 3) (d := iD e) rfl) (ep_int (i := 1)) r2_int) (by unfold iD; rw [Int.natCast_add]; rfl)) (by rw [fms_len]; omega))) ?_) (fms_set (r := ((KM.rw_ rows e).1, M)) he)) (fms_im _ _) (sd_go ?_))
    · rw [List.length_take, List.length_drop, fms_len]; simp; omega
    · rw [List.length_append, List.length_take, List.length_drop, List.length_drop, fms_len]; simp; omega
    refine sd_if (b := !true || !(KM.siz rows == KM.siz rows && decide (Q = KM.put L (rows.set e ((KM.rw_ rows e).1, M))))) (et_or (et_not (et_B (ep_isiO (ns := ["things", "lots"]) (l := [iD (KM.siz rows), tsD Q]) (ep_var (i := 7) rfl) fc.ob))) fun _ => et_not (et_test (ep_op (ep_var (i := 7) (d := famD C (KM.siz rows) Q) rfl) (ep_is (ep_callO (ns := ["things", "lots"]) (l := [iD n, tsD L]) (ep_var (i := 1) rfl) (ea_cons (ep_var (i := 9) (d := .lst (fms C (rows.set e ((KM.rw_ rows e).1, M)))) rfl) ea_nil) ⟨n, L, rows.set e ((KM.rw_ rows e).1, M), _, pk.call, .inr rfl, rfl, rfl⟩) (by rw [pk.putD, hs']; rfl)) (r2_eqO ⟨_, _, _, _, rfl, rfl⟩)))) (fun h => ?_) (fun _ => sd_lp trivial (.eq (.eq (.eq (.eq (.eq (.eq (.no (.no (.no (.no (.no .nil))))))))))))
    rw [eq] at h
    simp at h
  | out L' Q h1 h2 h3 gL eq =>
    refine first h1 h2 (famD_im _ _ _) rfl ?_
    have p' : KM.Pin n L' rows := ⟨gL, hp.len, hp.r⟩
    have pk := pin_ok p' h14
    refine sd_if (et_B (ep_isiN (d := .tup [iD a, .str x]) ni (ep_var (i := 8) rfl) rfl (by simp))) (fun h => by cases h) (fun _ => ?_)
    refine sd_seq (sd_asg (d := famD C n L') (ep_call (ea_cons (ep_var (i := 1) rfl) (ea_cons (ep_var (i := 3) (d := iD e) rfl) (ea_cons (ep_var (i := 6) (d := .str x) rfl) ea_nil))) (step3 h3)) (famD_im _ _ _) (sd_go ?_))
    refine sd_if (et_B (ep_isiO (ns := ["things", "lots"]) (l := [iD n, tsD L']) (ep_var (i := 10) rfl) fc.ob)) (fun _ => ?_) (fun h => by cases h)
    refine sd_if (b := !true || !(KM.siz rows == KM.siz rows && decide (Q = KM.put L' rows))) (et_or (et_not (et_B (ep_isiO (ns := ["things", "lots"]) (l := [iD (KM.siz rows), tsD Q]) (ep_var (i := 7) rfl) fc.ob))) fun _ => et_not (et_test (ep_op (ep_var (i := 7) (d := famD C (KM.siz rows) Q) rfl) (ep_is (ep_callO (ns := ["things", "lots"]) (l := [iD n, tsD L']) (ep_var (i := 10) rfl) (ea_cons (ep_var (i := 2) (d := .lst (fms C rows)) rfl) ea_nil) ⟨n, L', rows, _, pk.call, .inr rfl, rfl, rfl⟩) (by rw [pk.putD]; rfl)) (r2_eqO ⟨_, _, _, _, rfl, rfl⟩)))) (fun h => ?_) (fun _ => sd_lp trivial (.eq (.eq (.eq (.eq (.eq (.eq (.no (.no (.no (.no (.no .nil))))))))))))
    rw [eq] at h
    simp at h
  | lost h1 h2 h3 =>
    refine first h1 h2 rfl rfl ?_
    refine sd_if (et_B (ep_isiN (d := .tup [iD a, .str x]) ni (ep_var (i := 8) rfl) rfl (by simp))) (fun h => by cases h) (fun _ => ?_)
    refine sd_seq (sd_asg (d := .tup [iD e, .str x]) (ep_call (ea_cons (ep_var (i := 1) rfl) (ea_cons (ep_var (i := 3) (d := iD e) rfl) (ea_cons (ep_var (i := 6) (d := .str x) rfl) ea_nil))) (step3 h3)) rfl (sd_go ?_))
    refine sd_if (et_B (ep_isiN (d := .tup [iD e, .str x]) ni (ep_var (i := 10) rfl) rfl (by simp))) (fun h => by cases h) (fun _ => ?_)
    refine sd_if (b := false || false) (et_or (et_test (ep_op (ep_var (i := 7) (d := .tup [iD (KM.stt rows e + a), .str x]) rfl) (ep_tup (l := [iD (KM.stt rows e + a), .str x]) (ea_cons (eX rfl rfl) (ea_cons (ep_var (i := 6) (d := .str x) rfl) ea_nil))) (r2_neD (b := false) (is_cmp _ _ hso) (is_cmp _ _ hso) ⟨fun h => by (cases h), fun h => absurd rfl h⟩))) fun _ => et_test (ep_op (ep_var (i := 10) (d := .tup [iD e, .str x]) rfl) (ep_tup (l := [iD e, .str x]) (ea_cons (ep_var (i := 3) (d := iD e) rfl) (ea_cons (ep_var (i := 6) (d := .str x) rfl) ea_nil))) (r2_neD (b := false) (is_cmp _ _ hso) (is_cmp _ _ hso) ⟨fun h => by (cases h), fun h => absurd rfl h⟩))) (fun h => by cases h) (fun _ => sd_lp trivial (.eq (.eq (.eq (.eq (.eq (.eq (.no (.no (.no (.no (.no .nil))))))))))))
end
end Y
set_option Elab.async false
set_option linter.all false
set_option autoImplicit false
set_option maxRecDepth 100000
set_option maxHeartbeats 4000000
namespace Y
open PySem L2
theorem gf_01 : KM.GF 2 [[0, 1]] := ⟨by decide, by decide, ⟨by decide, by decide, by decide⟩, by decide, by decide⟩
theorem gf_32 : KM.GF 3 (KM.sized 3 2) := KM.sized_gf (by decide) (by decide)
theorem gf_0_1 : KM.GF 2 [[0], [1]] := ⟨by decide, by decide, ⟨by decide, by decide, by decide⟩, by decide, by decide⟩
section
variable {K : PySem.W.Frag} {B : List Addr} {H0 : Hp} {Z : Hp → Prop} {E : List Slot} {S : List Int → List Slot} {i : Nat} {p : Addr} {De : Ends}
/-- a def that draws and takes nothing else, called among own lists -/
theorem en_drawA {pre : List D → D → Prop} {P : D → Prop} {ex : XK} (hd : DS S i p) (hP : ∀ d, pre [] d → P d) : EN K B H0 Z (tCall (DrawA K pre) [] ex (tCons (tVar i) tNil)) S p P := fun ns σ H e Q q => by
  obtain ⟨sp, hp⟩ := e.dat hd
  refine ⟨.ref p, sp, p, (ows (S ns)).filter (fun a => decide (a ≠ p)), ns, rfl, hp, by simp, fun a ha => e.lsts a (List.mem_filter.mp ha).1, fun v H' d ns' dw hp' hi hpre => ?_⟩
  refine q v d ns' H' (hP d hpre) (e.drawn hd dw hp') dw (hi.mono (hid_sub fun a ha => ?_))
  rw [List.mem_cons, List.mem_filter]
  by_cases z : a = p
  · exact .inl z
  · exact .inr ⟨ha, by simpa using z⟩
end
section
variable {P : Program} {w : World} {K : PySem.W.Frag} {mg : Str → Option Value} {base : Heap}
/-! law_inner -/
abbrev s_law_inner : Stmt := topS 57
abbrev N_law_inner : List Str := ["_law_draws_here", "_law_size", "_law_rows", "_law_many", "_law_thing", "_law_row", "_law_word"]
theorem sc_law_inner : FnScope N_law_inner ["_law_draws_here", "_law_size"] (defScope s_law_inner) := ⟨rfl, rfl, rfl, by decide +kernel, rfl, by decide +kernel, by decide +kernel⟩
def ok_inner (ds : List D) : Prop := ∃ n : Nat, 1 ≤ n ∧ n ≤ 4 ∧ ds = [iD n]
def p_inner (ds : List D) (d : D) : Prop := ∀ n : Nat, ds = [iD n] → ∃ rows : Rws, rows.length = n ∧ (∀ r ∈ rows, KM.GF r.1 r.2) ∧ KM.siz rows ≤ 11 ∧ d = .lst (rows.map famR)
theorem siz_snoc (rows : Rws) (r : Nat × List (List Nat)) : KM.siz (rows ++ [r]) = KM.siz rows + r.1 := by unfold KM.siz; simp
theorem ok_law_inner {f : Addr} {fd : FuncData} (F : Fun K "_law_inner" "_law_inner" s_law_inner f fd) (T : Txt mg) (c_law_pick : Cl P w K mg base 1 "_law_pick" (PickP K)) (c_law_sized : Cl P w K mg base 2 "_law_sized" (Fresh K p_law_sized)) (c_law_small : Cl P w K mg base 4 "_law_small" (DrawA K p_fam4)) :
    FnOk P w K mg base CX0 5 f fd ["_law_draws_here", "_law_size"] (DrawP K ok_inner p_inner) := by
  refine draw_ok F sc_law_inner (fun ds h => by obtain ⟨_, _, _, rfl⟩ := h; rfl) (by decide) fun cdv A outer s H E hr => ?_
  refine ⟨_, (pss_cons (ps_set (i := 2) sc_law_inner.nd rfl (Or.inl rfl) (pe_lst pa_nil))
    (pss_cons (ps_set (i := 3) sc_law_inner.nd rfl (Or.inl rfl) pe_int)
    (pss_cons (ps_for PassesOwn.never rfl (pi_range1 (by rfl) T.range (pa_cons (pv 1) pa_nil)) (pg_name (i := 4) sc_law_inner.nd rfl (Or.inl rfl))
    (pss_cons (ps_set (i := 5) sc_law_inner.nd rfl (Or.inl rfl) (pe_lst (pa_cons pe_int (pa_cons (pe_lst (pa_cons (pe_tup (pa_cons pe_int pa_nil)) pa_nil)) pa_nil))))
    (pss_cons (ps_set (i := 6) sc_law_inner.nd rfl (Or.inl rfl) (pe_cl c_law_pick hr (by decide) (by rfl) (pa_cons (pv 0) (pa_cons pe_int pa_nil))))
    (pss_cons (ps_if (pt_cmpR op_eq (pv 6) pe_int (nomark _)) (pss_one (ps_set (i := 5) sc_law_inner.nd rfl (Or.inl rfl) (pe_lst (pa_cons pe_int (pa_cons (pe_lst (pa_cons (pe_tup (pa_cons pe_int (pa_cons pe_int pa_nil))) pa_nil)) pa_nil))))) pss_nil)
    (pss_cons (ps_if (pt_cmpR op_eq (pv 6) pe_int (nomark _)) (pss_one (ps_set (i := 5) sc_law_inner.nd rfl (Or.inl rfl) (pe_lst (pa_cons pe_int (pa_cons (pe_lst (pa_cons (pe_tup (pa_cons pe_int pa_nil)) (pa_cons (pe_tup (pa_cons pe_int pa_nil)) pa_nil))) pa_nil))))) pss_nil)
    (pss_cons (ps_if (pt_cmpR op_eq (pv 6) pe_int (nomark _)) (pss_one (ps_set (i := 5) sc_law_inner.nd rfl (Or.inl rfl) (pe_lst (pa_cons pe_int (pa_cons (pe_cl c_law_sized hr (by decide) (by rfl) (pa_cons pe_int (pa_cons pe_int pa_nil))) pa_nil))))) pss_nil)
    (pss_cons (ps_if (pt_cmpR op_eq (pv 6) pe_int (nomark _)) (pss_one (ps_set (i := 5) sc_law_inner.nd rfl (Or.inl rfl) (pe_cl c_law_small hr (by decide) (by rfl) (pa_cons (pv 0) pa_nil)))) pss_nil)
    (pss_cons (ps_if (pw_or (pt_cmpR op_gt (pe_op op_sub (pe_op op_sub (pe_op op_add (pe_op op_add (pv 3) (pe_ix (r := rIxL K) ix_list (pv 5) pe_int (fun _ _ => rfl))) (pv 1)) (pv 4)) pe_int) pe_int (nomark _)) (pw_or1 (pt_cmpR op_gt (pe_callB (r := rLen K) call_lenY (by rfl) T.len PySem.boot_len (pa_cons (pe_ix (r := rIxL K) ix_list (pv 5) pe_int (fun _ _ => rfl)) pa_nil)) pe_int (nomark _)))).pt (pss_one (ps_set (i := 5) sc_law_inner.nd rfl (Or.inl rfl) (pe_lst (pa_cons pe_int (pa_cons (pe_lst (pa_cons (pe_tup (pa_cons pe_int pa_nil)) pa_nil)) pa_nil))))) pss_nil)
    (pss_cons (ps_set (i := 3) sc_law_inner.nd rfl (Or.inl rfl) (pe_op op_add (pv 3) (pe_ix (r := rIxL K) ix_list (pv 5) pe_int (fun _ _ => rfl))))
    (pss_one (ps_expr (pe_bm PySem.F.plainAttrs_list PySem.F.slot_list_append PySem.F.type_list_append mt_append (pv 2) (pa_cons (pv 5) pa_nil)))))))))))))
    (pss_one (ps_ret (pv 2)))))), ?_⟩
  rintro ds p ⟨n, n1, n4, rfl⟩ De o _ ns
  refine sd_seq (sd_asgO (ef_lst ea_nil) rfl fun q => sd_go ?_)
  refine sd_seq (sd_asg (d := iD 0) ep_int rfl (sd_go ?_))
  refine sd_seq (sd_forRW (n := (n : Int)) (fun i E => ∃ (ns : List Int) (rows : Rws), E = [dr p ns, .val (iD n), .own q (rows.map famR), .val (iD (KM.siz rows)), .no, .no, .no] ∧ rows.length = i ∧ (∀ r ∈ rows, KM.GF r.1 r.2) ∧ KM.siz rows + (n - i) ≤ 11) (ea_cons (ep_var (i := 1) (d := iD n) rfl) ea_nil) (by omega) ⟨ns, [], rfl, rfl, by simp, by simp [KM.siz]; omega⟩ ?_ ?_)
  · rintro i E hi ⟨ns, rows, rfl, hl, hg, hs⟩
    have hin : i < n := by omega
    have e00 : ∀ {E : List Slot}, EC K [p] H (fun _ => True) (tLst (tCons (tC (.int 1)) (tCons (tLst (tCons (tTup (tCons (tC (.int 0)) tNil)) tNil)) tNil))) E (famL 1 [[0]]) := fun {E} => ec_fam (n := 1) (ls := [[0]]) ec_int (ec_new (ef_lst (ea_cons (ep_tup (l := [iD 0]) (ea_cons ep_n0 ea_nil)) ea_nil)) rfl)
    refine sd_seq (sd_asgC e00 (sd_go ?_))
    have hd1 : DS (fun ns => [dr p ns, .val (iD n), .own q (rows.map famR), .val (iD (KM.siz rows)), .val (.int i), .val (famL 1 [[0]]), .no]) 0 p := ⟨fun _ => rfl, fun _ _ => rfl⟩
    refine sd_seq (sd_asgN (S := fun ns => [dr p ns, .val (iD n), .own q (rows.map famR), .val (iD (KM.siz rows)), .val (.int i), .val (famL 1 [[0]]), .no]) hd1 (en_pick (b := 5) hd1 (fun _ => ec_int) (by decide)) (fun d ns hdp => sd_go ?_) ns)
    obtain ⟨x, hx, rfl⟩ := hdp
    -- what goes on from a row
    let Fr : (Nat × List (List Nat)) × List Int → List Slot := fun a => [dr p a.2, .val (iD n), .own q (rows.map famR), .val (iD (KM.siz rows)), .val (.int i), .val (famL a.1.1 a.1.2), .val (iD x)]
    have tst : ∀ {k : Nat} {r : Nat × List (List Nat)} {ns : List Int}, ET K [p] H (fun _ => True) (tTest (tOp rEq (tVar 6) (tC (.int (k : Int))))) (Fr (r, ns)) (x == k) := fun {k r ns} => et_test (ep_op (ep_var (i := 6) (d := iD x) rfl) (ep_nat (n := k)) r2_eqN)
    have e01 : ∀ {E : List Slot}, EC K [p] H (fun _ => True) (tLst (tCons (tC (.int 2)) (tCons (tLst (tCons (tTup (tCons (tC (.int 0)) (tCons (tC (.int 1)) tNil))) tNil)) tNil))) E (famL 2 [[0, 1]]) := fun {E} => ec_fam (n := 2) (ls := [[0, 1]]) ec_int (ec_new (ef_lst (ea_cons (ep_tup (l := [iD 0, iD 1]) (ea_cons ep_n0 (ea_cons ep_n1 ea_nil))) ea_nil)) rfl)
    have e0_1 : ∀ {E : List Slot}, EC K [p] H (fun _ => True) (tLst (tCons (tC (.int 2)) (tCons (tLst (tCons (tTup (tCons (tC (.int 0)) tNil)) (tCons (tTup (tCons (tC (.int 1)) tNil)) tNil))) tNil))) E (famL 2 [[0], [1]]) := fun {E} => ec_fam (n := 2) (ls := [[0], [1]]) ec_int (ec_new (ef_lst (ea_cons (ep_tup (l := [iD 0]) (ea_cons ep_n0 ea_nil)) (ea_cons (ep_tup (l := [iD 1]) (ea_cons ep_n1 ea_nil)) ea_nil))) rfl)
    have e32 : ∀ {E : List Slot}, EC K [p] H (fun _ => True) (tLst (tCons (tC (.int 3)) (tCons (tCall (Fresh K p_law_sized) [] E0 (tCons (tC (.int 3)) (tCons (tC (.int 2)) tNil))) tNil))) E (famL 3 (KM.sized 3 2)) := fun {E} => ec_fam (n := 3) (ls := KM.sized 3 2) ec_int (ec_new (ef_call (ea_cons (ep_nat (n := 3)) (ea_cons (ep_nat (n := 2)) ea_nil)) ⟨3, 2, by decide, by decide, rfl, rfl⟩) (imAll_tD _))
    refine sd_seq (sd_ifJ (α := (Nat × List (List Nat)) × List Int) (G := fun a => KM.GF a.1.1 a.1.2) (F := Fr) (tst (k := 1) (r := (1, [[0]]))) (fun _ k => sd_asgC e01 (k ((2, [[0, 1]]), ns) gf_01)) (fun _ k => k ((1, [[0]]), ns) gf_one) (fun a1 ga1 => sd_go ?_))
    obtain ⟨r1, ns1⟩ := a1
    refine sd_seq (sd_ifJ (α := (Nat × List (List Nat)) × List Int) (G := fun a => KM.GF a.1.1 a.1.2) (F := Fr) (tst (k := 2) (r := r1)) (fun _ k => sd_asgC e0_1 (k ((2, [[0], [1]]), ns1) gf_0_1)) (fun _ k => k (r1, ns1) ga1) (fun a2 ga2 => sd_go ?_))
    obtain ⟨r2, ns2⟩ := a2
    refine sd_seq (sd_ifJ (α := (Nat × List (List Nat)) × List Int) (G := fun a => KM.GF a.1.1 a.1.2) (F := Fr) (tst (k := 3) (r := r2)) (fun _ k => sd_asgC e32 (k ((3, KM.sized 3 2), ns2) gf_32)) (fun _ k => k (r2, ns2) ga2) (fun a3 ga3 => sd_go ?_))
    obtain ⟨r3, ns3⟩ := a3
    have hd4 : DS (fun ns => Fr (r3, ns)) 0 p := ⟨fun _ => rfl, fun _ _ => rfl⟩
    refine sd_seq (sd_ifJ (α := (Nat × List (List Nat)) × List Int) (G := fun a => KM.GF a.1.1 a.1.2) (F := Fr) (tst (k := 4) (r := r3)) (fun _ k => sd_asgN (S := fun ns => Fr (r3, ns)) hd4 (en_drawA hd4 fun d h => h) (fun d ns hdp => by
      obtain ⟨n', L', g', _, rfl⟩ := hdp
      exact k ((n', L'), ns) g') ns3) (fun _ k => k (r3, ns3) ga3) (fun a4 ga4 => sd_go ?_))
    obtain ⟨r4, ns4⟩ := a4
    have hrow : ∀ {Z : Hp → Prop} {E : List Slot} {k : Nat} {d : D}, E[5]? = some (.val (famL r4.1 r4.2)) → ([iD r4.1, lsD r4.2])[k]? = some d → EP K [p] H Z (tOp (rIxL K) (tVar 5) (tC (.int (k : Int)))) E d := fun {Z E k d} h hk => ep_op (ep_var (i := 5) (d := .lst [iD r4.1, lsD r4.2]) h) ep_int (r2_ixL (atI_nat hk))
    refine sd_seq (sd_ifJ (α := (Nat × List (List Nat)) × List Int) (G := fun a => KM.GF a.1.1 a.1.2 ∧ KM.siz rows + a.1.1 + (n - (i + 1)) ≤ 11) (F := Fr) (b := decide ((11 : Int) < (((KM.siz rows : Int) + (r4.1 : Int) + (n : Int)) - (i : Int)) - 1) || decide ((4 : Int) < (r4.2.length : Int)))
      (et_or (et_test (ep_op (ep_op (ep_op (ep_op (ep_op (ep_var (i := 3) (d := iD (KM.siz rows)) rfl) (hrow (k := 0) (d := iD r4.1) rfl rfl) r2_int) (ep_var (i := 1) (d := iD n) rfl) r2_int) (ep_var (i := 4) (d := iD i) rfl) r2_int) (ep_int (i := 1)) r2_int) (ep_int (i := 11)) (r2_cmp (g := fun i j => decide (j < i))))) fun _ => et_test (ep_op (ep_cb (ea_cons (hrow (k := 1) (d := lsD r4.2) rfl rfl) ea_nil) rc_lenLn) (ep_int (i := 4)) (r2_cmp (g := fun i j => decide (j < i)))))
      (fun _ k => sd_asgC e00 (k ((1, [[0]]), ns4) ⟨gf_one, by show KM.siz rows + 1 + (n - (i + 1)) ≤ 11; omega⟩)) (fun h k => k (r4, ns4) ⟨ga4, ?_⟩) (fun a5 ga5 => sd_go ?_))
    · have h1 : ¬ ((11 : Int) < (((KM.siz rows : Int) + (r4.1 : Int) + (n : Int)) - (i : Int)) - 1) := of_decide_eq_false (Bool.or_eq_false_iff.mp h).1
      show KM.siz rows + r4.1 + (n - (i + 1)) ≤ 11
      omega
    obtain ⟨r5, ns5⟩ := a5
    obtain ⟨gr, hb⟩ := ga5
    have hb' : KM.siz rows + r5.1 + (n - (i + 1)) ≤ 11 := hb
    refine sd_seq (sd_asg (d := iD (KM.siz rows + r5.1)) (ep_is (ep_op (ep_var (i := 3) (d := iD (KM.siz rows)) rfl) (ep_op (ep_var (i := 5) (d := .lst [iD r5.1, lsD r5.2]) rfl) ep_int (r2_ixL (i := 0) (d := iD r5.1) rfl)) r2_int) (by unfold iD; rw [Int.natCast_add])) rfl (sd_go ?_))
    refine sd_appC (p := q) (i := 2) (l := rows.map famR) (d := famR r5) rfl (ec_var (i := 5) rfl) (by rw [List.length_map]; omega) (sd_lw (E' := [dr p ns5, .val (iD n), .own q ((rows ++ [r5]).map famR), .val (iD (KM.siz (rows ++ [r5]))), .no, .no, .no]) ⟨ns5, rows ++ [r5], rfl, by simp [hl], fun z hz => ?_, by rw [siz_snoc]; exact hb'⟩ ?_)
    · rcases List.mem_append.mp hz with hz | hz
      · exact hg z hz
      · have : z = r5 := by simpa using hz
        rw [this]; exact gr
    · rw [List.map_append, siz_snoc]
      exact .eq (.eq (.eq (.eq (.no (.no (.no .nil))))))
  · rintro E ⟨ns, rows, rfl, hl, hg, hs⟩
    have hd2 : DS (fun ns => [dr p ns, .val (iD n), .own q (rows.map famR), .val (iD (KM.siz rows)), .no, .no, .no]) 0 p := ⟨fun _ => rfl, fun _ _ => rfl⟩
    refine sd_go (sd_retDO (S := fun ns => [dr p ns, .val (iD n), .own q (rows.map famR), .val (iD (KM.siz rows)), .no, .no, .no]) (j := 2) (q := q) hd2 rfl (by decide) o fun n' e => ?_)
    have : n' = n := by
      have := (List.cons.inj e).1
      unfold iD at this
      have := D.int.inj this
      omega
    subst this
    exact ⟨rows, by omega, hg, by omega, rfl⟩
end
end Y
set_option Elab.async false
set_option linter.all false
set_option autoImplicit false
set_option maxRecDepth 100000
set_option maxHeartbeats 4000000
namespace Y
open PySem L2
section
variable {K : PySem.W.Frag} {B : List Addr} {H0 : Hp} {Z : Hp → Prop} {E : List Slot} {S : List Int → List Slot} {i : Nat} {p : Addr} {De : Ends} {t u : TT} {ea : TA} {C : Addr}
theorem ent_and {P1 P2 P : Bool → Prop} (h1 : ENT K B H0 Z t S p P1) (h2 : ENT K B H0 Z u S p P2) (hP : (P1 false → P false) ∧ ∀ b, P1 true → P2 b → P b) : ENT K B H0 Z (tAnd t u) S p P := fun ns σ H e Q q =>
  h1 ns σ H e _ fun b ns1 H1 p1 e1 w1 => by
    cases b with
    | false => exact q false ns1 H1 (hP.1 p1) e1 w1
    | true => exact h2 ns1 σ H1 e1 _ fun b ns2 H2 p2 e2 w2 => q b ns2 H2 (hP.2 b p1 p2) e2 (w1.trans w2)
theorem ent_pick {b : Nat} {c : Int} (hd : DS S i p) (hb : 1 ≤ b) : ENT K B H0 Z (tTest (tOp rEq (tCall (PickP K) [] E0 (tCons (tVar i) (tCons (tC (.int b)) tNil))) (tC (.int c)))) S p (fun _ => True) :=
  ent_ev (P1 := fun d => ∃ b, d = .bl b) (en_op (P1 := fun d => ∃ x, x < b ∧ d = iD x) (P2 := fun _ d => d = .int c) hd (en_pick hd (fun _ => ec_int) hb) (fun _ _ => en_ec (d := .int c) (fun _ => ec_int) hd rfl) (fun x y hx hy => by
    obtain ⟨a, _, rfl⟩ := hx
    subst hy
    exact ⟨_, r2_eqI (i := (a : Int)) (j := c), rfl, _, rfl⟩)) (fun d hd => by obtain ⟨b, rfl⟩ := hd; exact ⟨b, rfl, trivial⟩)
theorem ep_ref {a : Addr} : EP K B H0 Z (tC (.ref a)) E (.adr a) := fun σ H _ Q q => q _ H (Ex.refl H) (.adr a)
/-- C(..), an argument drawn -/
theorem en_make {pre : List D → List Str → List D → Prop} {PA : List D → Prop} {P : D → Prop} {ex : XK} (hd : DS S i p) (h : ENA K B H0 Z ea S p PA) (hp : ∀ l, PA l → ∃ ns m, pre l ns m ∧ (D.ins C ns m).im = true ∧ P (.ins C ns m)) : EN K B H0 Z (tMake C (InitP K C pre) [] ex ea) S p P := fun ns σ H e Q q =>
  h ns σ H e _ fun vs l ns1 H1 p1 e1 w1 h1 => by
    obtain ⟨nn, m, hp1, im, pd⟩ := hp l p1
    intro x dx nx ndx ne
    have up : Ex H1 (upd (upd H1 dx (.own x)) x (.ins C dx [])) := (Ex.new ndx).trans (Ex.new (by rw [upd_ne (Ne.symm ne)]; exact nx))
    refine ⟨x, dx, vs, l, nn, m, by rw [List.append_nil], upd_same, (h1.mono (hid_le _ _)).mono up, hp1, fun H' fs k hx hn hl => ⟨rfl, ?_⟩⟩
    have ex' : Ex H1 H' := fun a o z => k a o (fun y => by rw [y, nx] at z; cases z) (up a o z)
    refine q _ _ ns1 H' pd (e1.ext ex') (w1.trans ex'.drw) ?_
    rw [← hid_ows hd ns ns1]
    exact (Is.ins hx hn hl).clean (e1.ext ex').lsts im
end
theorem fms_slc {C : Addr} {ag rows : Rws} {e : Nat} : ((fms C ag).drop (KM.stt rows e)).take (KM.stt rows e + (KM.rw_ rows e).1 - KM.stt rows e) = fms C (KM.slc ag rows e) := by
  unfold fms KM.slc
  rw [Nat.add_sub_cancel_left, List.map_take, List.map_drop]
theorem siz_slc (ag rows : Rws) (e : Nat) : KM.siz (KM.slc ag rows e) ≤ KM.siz ag := by
  unfold KM.slc
  have h1 := KM.stt_add ag (KM.stt rows e) (KM.rw_ rows e).1
  by_cases h : KM.stt rows e + (KM.rw_ rows e).1 ≤ ag.length
  · have := KM.stt_le h
    omega
  · have h3 : ∀ k, ag.length ≤ k → KM.stt ag k = KM.siz ag := fun k hk => by
      unfold KM.stt KM.siz
      rw [List.take_of_length_le hk]
    have h2 := h3 (KM.stt rows e + (KM.rw_ rows e).1) (by omega)
    omega
section
variable {P : Program} {w : World} {K : PySem.W.Frag} {mg : Str → Option Value} {base : Heap}
/-! law_twice -/
abbrev s_law_twice : Stmt := topS 64
abbrev N_law_twice : List Str := ["_law_draws_here", "_law_outer", "_law_inner_here", "_law_fam", "_law_again", "_law_wide", "_law_turn", "_law_one", "_law_deep", "_law_start", "_law_row"]
theorem sc_law_twice : FnScope N_law_twice ["_law_draws_here", "_law_outer", "_law_inner_here", "_law_fam"] (defScope s_law_twice) := ⟨rfl, rfl, rfl, by decide +kernel, rfl, by decide +kernel, by decide +kernel⟩
def ok_twice (C : Addr) (ds : List D) : Prop := ∃ (n : Nat) (L : List (List Nat)) (rows : Rws), KM.Pin n L rows ∧ KM.siz rows ≤ 11 ∧ ds = [famD C n L, .lst (fms C rows), famD C (KM.siz rows) (KM.put L rows)]
theorem ok_law_twice {f C CN CF CZ : Addr} {fd : FuncData} (F : Fun K "_law_twice" "_law_twice" s_law_twice f fd) (T : Txt mg) (fc : FamC K mg C) (c_law_pick : Cl P w K mg base 1 "_law_pick" (PickP K)) (c_single : ClK P w K mg base 7 C "single" (Pure K (p_single C))) (c_Family : ClI P w K mg base 5 C "Family" (InitP K C p_init))
    (c_call : ClC P w K mg base 7 C (PureE K (p_fcall C) (q_fcallE C CN CF CZ))) (c_put_in : Cl P w K mg base 8 "put_in" (PureE K (p_fcall C) (q_fcallE C CN CF CZ))) (c_eq : ClO P w K mg base 1 C "__eq__" (Pure K (p_eq C))) (hnf : PySem.W.notFirst K C (.ref C) = true) :
    FnOk P w K mg base CX0 9 f fd ["_law_draws_here", "_law_outer", "_law_inner_here", "_law_fam"] (DrawP K (ok_twice C) p_true) := by
  refine draw_ok F sc_law_twice (fun ds h => by obtain ⟨_, _, _, _, _, rfl⟩ := h; rfl) (by decide) fun cdv A outer s H E hr => ?_
  refine ⟨_, (pss_cons (ps_set (i := 4) sc_law_twice.nd rfl (Or.inl rfl) (pe_lst pa_nil))
    (pss_cons (ps_set (i := 5) sc_law_twice.nd rfl (Or.inl rfl) pe_int)
    (pss_cons (ps_for PassesOwn.never rfl (pi_range1 (by rfl) T.range (pa_cons (pe_fld (pv 3) rfl) pa_nil)) (pg_name (i := 6) sc_law_twice.nd rfl (Or.inl rfl))
    (pss_cons (ps_set (i := 7) sc_law_twice.nd rfl (Or.inl rfl) (pe_cmeth0 c_single hr (by decide) (pe_glob (v := .ref C) (by rfl) fc.m rfl)))
    (pss_cons (ps_if (pw_and (pt_cmpR op_eq (pe_cl c_law_pick hr (by decide) (by rfl) (pa_cons (pv 0) (pa_cons pe_int pa_nil))) pe_int (nomark _)) (pw_and (pt_cmpR op_lt (pv 5) pe_int (nomark _)) (pw_and1 (pt_cmpR op_le (pe_callB (r := rLen K) call_lenY (by rfl) T.len PySem.boot_len (pa_cons (pe_fld (pv 3) rfl) pa_nil)) pe_int (nomark _))))).pt (pss_cons (ps_set (i := 7) sc_law_twice.nd rfl (Or.inl rfl) (pe_clI c_Family hr (by decide) (by rfl) (pa_cons pe_int (pa_cons (pe_ix (r := rIxL K) ix_list (pe_lst (pa_cons (pe_lst (pa_cons (pe_tup (pa_cons pe_int (pa_cons pe_int pa_nil))) pa_nil)) (pa_cons (pe_lst (pa_cons (pe_tup (pa_cons pe_int pa_nil)) (pa_cons (pe_tup (pa_cons pe_int pa_nil)) pa_nil))) pa_nil))) (pe_cl c_law_pick hr (by decide) (by rfl) (pa_cons (pv 0) (pa_cons pe_int pa_nil))) (fun _ _ => rfl)) pa_nil))))
    (pss_one (ps_set (i := 5) sc_law_twice.nd rfl (Or.inl rfl) (pe_op op_add (pv 5) pe_int)))) pss_nil)
    (pss_one (ps_expr (pe_bm PySem.F.plainAttrs_list PySem.F.slot_list_append PySem.F.type_list_append mt_append (pv 4) (pa_cons (pv 7) pa_nil)))))))
    (pss_cons (ps_set (i := 8) sc_law_twice.nd rfl (Or.inl rfl) (pe_lst pa_nil))
    (pss_cons (ps_set (i := 9) sc_law_twice.nd rfl (Or.inl rfl) pe_int)
    (pss_cons (ps_for PassesOwn.never rfl (pi_list (pv 2)) (pg_name (i := 10) sc_law_twice.nd rfl (Or.inl rfl))
    (pss_cons (ps_expr (pe_bm PySem.F.plainAttrs_list PySem.F.slot_list_append PySem.F.type_list_append mt_append (pv 8) (pa_cons (pe_clC c_call hr (by decide) takes0 (pv 10) (pa_cons (pe_slice (r := rSlL K) sl_list (pv 4) (po_some (pv 9)) (po_some (pe_op op_add (pv 9) (pe_fld (pv 10) rfl)))) pa_nil)) pa_nil)))
    (pss_one (ps_set (i := 9) sc_law_twice.nd rfl (Or.inl rfl) (pe_op op_add (pv 9) (pe_fld (pv 10) rfl))))))
    (pss_one (ps_ret (pe_and (pe_cmpR (r := rEqO K C (Pure K (p_eq C))) (op_clO c_eq hnf hr (by decide)) (pe_clC c_call hr (by decide) takes0 (pv 3) (pa_cons (pv 4) pa_nil)) (pe_clC c_call hr (by decide) takes0 (pv 1) (pa_cons (pv 8) pa_nil)) (nomark _)) (pe_one (pe_cmpR (r := rEqO K C (Pure K (p_eq C))) (op_clO c_eq hnf hr (by decide)) (pe_cl c_put_in hr (by decide) (by rfl) (pa_cons (pv 3) (pa_cons (pe_callTy (r := rTupOf K) call_tupY (by rfl) T.tuple (by decide +kernel) (pa_cons (pv 4) pa_nil)) pa_nil))) (pe_clC c_call hr (by decide) takes0 (pv 1) (pa_cons (pe_callTy (r := rTupOf K) call_tupY (by rfl) T.tuple (by decide +kernel) (pa_cons (pv 8) pa_nil)) pa_nil)) (nomark _)))))))))))), ?_⟩
  rintro ds p ⟨n, L, rows, hp, h11, rfl⟩ De o _ ns
  have hn := pin_len hp
  have hlen := hp.len
  have g := KM.put_gf hp
  let fN : D := famD C n L
  let fP : D := famD C (KM.siz rows) (KM.put L rows)
  let fI : D := .lst (fms C rows)
  refine sd_seq (sd_asgO (ef_lst ea_nil) rfl fun q => sd_go ?_)
  refine sd_seq (sd_asg (d := iD 0) ep_int rfl (sd_go ?_))
  refine sd_seq (sd_forRW (n := (KM.siz rows : Int)) (fun i E => ∃ (ns : List Int) (ag : Rws) (wd : Nat), E = [dr p ns, .val fN, .val fI, .val fP, .own q (fms C ag), .val (iD wd), .no, .no, .no, .no, .no] ∧ ag.length = i ∧ (∀ r ∈ ag, KM.GF r.1 r.2) ∧ KM.siz ag = i + wd ∧ wd ≤ 2) (ea_cons (ep_fld (ep_var (i := 3) (d := famD C (KM.siz rows) (KM.put L rows)) rfl) fc.ob.cl fc.nt rfl) ea_nil) (by omega) ⟨ns, [], 0, rfl, rfl, by simp, rfl, by omega⟩ ?_ ?_)
  · rintro i E hi ⟨ns, ag, wd, rfl, hl, hg, hs, hw⟩
    refine sd_seq (sd_asg (d := famD C 1 [[0]]) (ep_cmeth0 ep_ref ⟨rfl, rfl⟩) (famD_im _ _ _) (sd_go ?_))
    let Fr : ((Nat × List (List Nat)) × Nat) → List Int → List Slot := fun a ns => [dr p ns, .val fN, .val fI, .val fP, .own q (fms C ag), .val (iD a.2), .val (iD i), .val (famD C a.1.1 a.1.2), .no, .no, .no]
    have hd1 : DS (fun ns => Fr ((1, [[0]]), wd) ns) 0 p := ⟨fun _ => rfl, fun _ _ => rfl⟩
    have t2 : ∀ ns, ET K [p] H (fun _ => True) (tTest (tOp (rI0 fun i j => .bl (decide (i < j))) (tVar 5) (tC (.int 2)))) (Fr ((1, [[0]]), wd) ns) (decide ((wd : Int) < 2)) := fun ns => et_test (ep_op (ep_var (i := 5) (d := iD wd) rfl) (ep_int (i := 2)) (r2_cmp (g := fun i j => decide (i < j))))
    have t3 : ∀ ns, ET K [p] H (fun _ => True) (tTest (tOp (rI0 fun i j => .bl (decide (i ≤ j))) (tCB (rLen K) (tCons (tFld K (tVar 3) "lots") tNil)) (tC (.int 50)))) (Fr ((1, [[0]]), wd) ns) (decide (((KM.put L rows).length : Int) ≤ 50)) := fun ns => et_test (ep_op (ep_cb (ea_cons (ep_fld (ep_var (i := 3) (d := famD C (KM.siz rows) (KM.put L rows)) rfl) fc.ob.cl fc.nl (d := .tup ((KM.put L rows).map tD)) rfl) ea_nil) rc_lenTn) (ep_int (i := 50)) (r2_cmp (g := fun i j => decide (i ≤ j))))
    refine sd_seq (sd_ifNJ (S := fun ns => Fr ((1, [[0]]), wd) ns) (α := (Nat × List (List Nat)) × Nat) (G := fun a => KM.GF a.1.1 a.1.2 ∧ a.1.1 + wd = 1 + a.2 ∧ a.2 ≤ 2) (F := Fr) (P := fun b => b = true → wd < 2)
      (ent_and (P1 := fun _ => True) (P2 := fun b => b = true → wd < 2) (ent_pick (b := 4) (c := 3) hd1 (by decide)) (ent_and (P1 := fun b => b = true → wd < 2) (P2 := fun _ => True) (ent_et t2 (fun h => by have := of_decide_eq_true h; omega)) (ent_et t3 trivial) ⟨(fun _ h => by cases h), fun b h _ _ => h rfl⟩) ⟨(fun _ h => by cases h), fun b _ h => h⟩) (fun hP k ns => ?_) (fun _ k ns => k ((1, [[0]]), wd) ⟨gf_one, rfl, hw⟩ ns) (fun a ga ns => sd_go ?_) ns)
    · have hwd := hP rfl
      have tup1 : ∀ (a : Nat) {Z : Hp → Prop} {E : List Slot}, EP K [p] H Z (tTup (tCons (tC (.int a)) tNil)) E (tD [a]) := fun a {Z E} => ep_tup (l := [iD a]) (ea_cons ep_int ea_nil)
      refine sd_seq (sd_asgN (S := fun ns => Fr ((1, [[0]]), wd) ns) hd1 (en_make (pre := p_init) (PA := fun l => ∃ M, (M = [[0, 1]] ∨ M = [[0], [1]]) ∧ l = [iD 2, lsD M]) (P := fun d => ∃ M, (M = [[0, 1]] ∨ M = [[0], [1]]) ∧ d = famD C 2 M) hd1
        (ena_cons (P1 := fun d => d = iD 2) (P2 := fun _ l => ∃ M, (M = [[0, 1]] ∨ M = [[0], [1]]) ∧ l = [lsD M]) hd1 (en_ec (d := iD 2) (fun _ => ec_int) hd1 rfl)
          (fun _ _ => ena_cons (P1 := fun d => ∃ M, (M = [[0, 1]] ∨ M = [[0], [1]]) ∧ d = lsD M) (P2 := fun _ l => l = []) hd1 (en_ixL (l := [lsD [[0, 1]], lsD [[0], [1]]]) hd1 (fun ns => ec_lst (eac_cons (ec_new (ef_lst (ea_cons (ep_tup (l := [iD 0, iD 1]) (ea_cons ep_n0 (ea_cons ep_n1 ea_nil))) ea_nil)) rfl) (eac_cons (ec_new (ef_lst (ea_cons (tup1 0) (ea_cons (tup1 1) ea_nil))) rfl) eac_nil)))
            (en_pick (b := 2) hd1 (fun _ => ec_int) (by decide)) (fun d hd => by
              simp only [List.mem_cons, List.not_mem_nil, or_false] at hd
              rcases hd with rfl | rfl
              · exact ⟨_, .inl rfl, rfl⟩
              · exact ⟨_, .inr rfl, rfl⟩)) (fun _ _ => ena_nil hd1 rfl) (fun d l h1 h2 => by obtain ⟨M, hM, rfl⟩ := h1; exact ⟨M, hM, by rw [h2]⟩))
          (fun d l h1 h2 => by obtain ⟨M, hM, rfl⟩ := h2; exact ⟨M, hM, by rw [h1]⟩))
        (fun l hl => by
          obtain ⟨M, hM, rfl⟩ := hl
          have gM : KM.GF 2 M := by rcases hM with rfl | rfl; exact gf_01; exact gf_0_1
          refine ⟨["things", "lots"], [iD 2, tsD M], ⟨2, M, lsD M, gf_in gM (by decide), .inr rfl, rfl, rfl, by rw [gf_least gM]⟩, famD_im C 2 M, M, hM, rfl⟩)) (fun d ns hdp => sd_go ?_) ns)
      obtain ⟨M, hM, rfl⟩ := hdp
      have gM : KM.GF 2 M := by rcases hM with rfl | rfl; exact gf_01; exact gf_0_1
      exact sd_asg (d := iD (wd + 1)) (ep_is (ep_op (ep_var (i := 5) (d := iD wd) rfl) (ep_int (i := 1)) r2_int) (by unfold iD; rw [Int.natCast_add]; rfl)) rfl (k ((2, M), wd + 1) ⟨gM, by show 2 + wd = 1 + (wd + 1); omega, by show wd + 1 ≤ 2; omega⟩ ns)
    · obtain ⟨r, wd'⟩ := a
      obtain ⟨gr, e1, e2⟩ := ga
      have e1' : r.1 + wd = 1 + wd' := e1
      refine sd_app (p := q) (i := 4) (l := fms C ag) (d := famD C r.1 r.2) rfl (ep_var (i := 7) rfl) (famD_im _ _ _) (by rw [fms_len]; omega) (sd_lw (E' := [dr p ns, .val fN, .val fI, .val fP, .own q (fms C (ag ++ [r])), .val (iD wd'), .no, .no, .no, .no, .no]) ⟨ns, ag ++ [r], wd', rfl, by simp [hl], fun z hz => ?_, by rw [siz_snoc]; omega, e2⟩ ?_)
      · rcases List.mem_append.mp hz with hz | hz
        · exact hg z hz
        · have : z = r := by simpa using hz
          rw [this]; exact gr
      · have : fms C (ag ++ [r]) = fms C ag ++ [famD C r.1 r.2] := by unfold fms; simp
        rw [this]
        exact .eq (.eq (.eq (.eq (.eq (.eq (.no (.no (.no (.no (.no .nil))))))))))
  · rintro E ⟨ns, ag, wd, rfl, hl, hg, hs, hw⟩
    have hl' : ag.length = KM.siz rows := by omega
    have h13 : KM.siz ag ≤ 14 := by omega
    have dp := KM.deep_pin hp hl' hg
    have ds_ := KM.deep_siz hl'
    refine sd_go (sd_seq (sd_asgO (ef_lst ea_nil) rfl fun q8 => sd_go ?_))
    refine sd_seq (sd_asg (d := iD 0) ep_int rfl (sd_go ?_))
    let dp_ : Rws := KM.deep ag rows
    have dlen : dp_.length = rows.length := KM.deep_len
    refine sd_seq (sd_forLW (c := fun (r : Nat × List (List Nat)) => famD C r.1 r.2) (ts := rows) (fun i E => E = [dr p ns, .val fN, .val fI, .val fP, .own q (fms C ag), .val (iD wd), .no, .no, .own q8 (fms C (dp_.take i)), .val (iD (KM.stt rows i)), .no]) (ec_var (i := 2) rfl) rfl ?_ ?_)
    · rintro Z' i r E hr' rfl
      have hi : i < rows.length := (List.getElem?_eq_some_iff.mp hr').1
      have hrw : KM.rw_ rows i = r := by
        rw [KM.rw_get hi]
        rw [List.getElem?_eq_getElem hi] at hr'
        exact Option.some.inj hr'
      have sp := KM.slc_pin hp hl' hg hi
      rw [hrw] at sp
      have spk := pin_ok sp (Nat.le_trans (siz_slc ag rows i) h13)
      have hend := KM.stt_end hi
      rw [hrw] at hend
      have drow : KM.rw_ dp_ i = (KM.siz (KM.slc ag rows i), KM.put r.2 (KM.slc ag rows i)) := by
        have := KM.deep_rw (ag := ag) hi
        rw [hrw] at this
        exact this
      have dtake : dp_.take (i + 1) = dp_.take i ++ [KM.rw_ dp_ i] := by
        have hi2 : i < dp_.length := by rw [dlen]; exact hi
        rw [KM.rw_get hi2, List.take_add_one, List.getElem?_eq_getElem hi2]
        rfl
      have eB : ∀ {Z : Hp → Prop} {E : List Slot}, E[9]? = some (.val (iD (KM.stt rows i))) → E[10]? = some (.val (famD C r.1 r.2)) → EP K [p] H Z (tOp (rI0 fun i j => .int (i + j)) (tVar 9) (tFld K (tVar 10) "things")) E (iD (KM.stt rows i + r.1)) := fun {Z E} h1 h2 => ep_is (ep_op (ep_var h1) (ep_fld (ep_var (d := famD C r.1 r.2) h2) fc.ob.cl fc.nt rfl) r2_int) (by unfold iD; rw [Int.natCast_add])
      refine sd_seq (sd_app (p := q8) (i := 8) (l := fms C (dp_.take i)) (d := famD C (KM.rw_ dp_ i).1 (KM.rw_ dp_ i).2) rfl (ep_is (ep_callO (ns := ["things", "lots"]) (l := [iD r.1, tsD r.2]) (ep_var (i := 10) rfl) (ea_cons (EF.p (ef_slAB (a := KM.stt rows i) (b := KM.stt rows i + r.1) (ep_own (i := 4) (p := q) (l := fms C ag) rfl) (ep_var (i := 9) (d := iD (KM.stt rows i)) rfl) (eB rfl rfl) (by rw [fms_len]; omega) (by rw [fms_len]; omega))) ea_nil) ⟨r.1, r.2, KM.slc ag rows i, _, spk.call, .inr rfl, ?_, rfl⟩) ?_) (famD_im _ _ _) ?_ (sd_go ?_))
      · have := fms_slc (C := C) (ag := ag) (rows := rows) (e := i)
        rw [hrw] at this
        rw [this]
        rfl
      · rw [spk.putD, drow]
      · rw [fms_len, List.length_take]
        omega
      refine sd_asg (eB rfl rfl) rfl (sd_lw rfl ?_)
      have e3 : fms C (dp_.take (i + 1)) = fms C (dp_.take i) ++ [famD C (KM.rw_ dp_ i).1 (KM.rw_ dp_ i).2] := by rw [dtake]; unfold fms; simp
      rw [e3, KM.stt_succ hi, hrw]
      exact .eq (.eq (.eq (.eq (.eq (.eq (.no (.no (.eq (.eq (.no .nil))))))))))
    · rintro E rfl
      have e0 : dp_.take rows.length = dp_ := by rw [← dlen, List.take_length]
      rw [e0]
      have pa : PinOk (KM.siz rows) (KM.put L rows) ag := pin_ok ⟨g, hl', hg⟩ h13
      have pd : PinOk n L dp_ := pin_ok dp (by rw [ds_]; exact h13)
      have hpp := KM.put_put hp hl' hg
      have hdE : DS (fun ns => [dr p ns, .val fN, .val fI, .val fP, .own q (fms C ag), .val (iD wd), .no, .no, .own q8 (fms C dp_), .val (iD (KM.stt rows rows.length)), .no]) 0 p := ⟨fun _ => rfl, fun _ _ => rfl⟩
      have eqd : putD C L dp_ = putD C (KM.put L rows) ag := by rw [pd.putD, pa.putD, ds_, hpp]
      refine sd_go (sd_retD (S := fun ns => [dr p ns, .val fN, .val fI, .val fP, .own q (fms C ag), .val (iD wd), .no, .no, .own q8 (fms C dp_), .val (iD (KM.stt rows rows.length)), .no]) (d := .bl true) hdE (ec_im (ep_is (ep_andV (b := true) (c := true) ?_ fun _ => ?_) rfl) rfl) o rfl)
      · refine ep_is (ep_op (x := putD C (KM.put L rows) ag) (y := putD C L dp_) (ep_callO (ns := ["things", "lots"]) (l := [iD (KM.siz rows), tsD (KM.put L rows)]) (ep_var (i := 3) rfl) (ea_cons (ep_own (i := 4) rfl) ea_nil) ⟨_, _, ag, _, pa.call, .inr rfl, rfl, rfl⟩) (ep_callO (ns := ["things", "lots"]) (l := [iD n, tsD L]) (ep_var (i := 1) rfl) (ea_cons (ep_own (i := 8) rfl) ea_nil) ⟨_, _, dp_, _, pd.call, .inr rfl, rfl, rfl⟩) (r2_eqO ⟨_, _, _, _, rfl, rfl⟩)) ?_
        have := eqd
        unfold putD famD at this
        injection this with _ _ h3
        injection h3 with h4 h5
        injection h5 with h6 _
        simp
        constructor
        · unfold iD at h4; injection h4 with h4; exact (Int.ofNat_inj.mp h4).symm
        · unfold tsD at h6; injection h6 with h6; exact (map_tD_inj.mp h6).symm
      · refine ep_is (ep_op (x := putD C (KM.put L rows) ag) (y := putD C L dp_) (ep_callE (ea_cons (ep_var (i := 3) (d := famD C (KM.siz rows) (KM.put L rows)) rfl) (ea_cons (ep_cb (ea_cons (ep_own (i := 4) rfl) ea_nil) rc_tupleL) ea_nil)) ⟨_, _, ag, _, pa.call, .inl rfl, rfl, rfl⟩) (ep_callO (ns := ["things", "lots"]) (l := [iD n, tsD L]) (ep_var (i := 1) rfl) (ea_cons (ep_cb (ea_cons (ep_own (i := 8) rfl) ea_nil) rc_tupleL) ea_nil) ⟨_, _, dp_, _, pd.call, .inl rfl, rfl, rfl⟩) (r2_eqO ⟨_, _, _, _, rfl, rfl⟩)) ?_
        have := eqd
        unfold putD famD at this
        injection this with _ _ h3
        injection h3 with h4 h5
        injection h5 with h6 _
        simp
        constructor
        · unfold iD at h4; injection h4 with h4; exact (Int.ofNat_inj.mp h4).symm
        · unfold tsD at h6; injection h6 with h6; exact (map_tD_inj.mp h6).symm
end
end Y
set_option Elab.async false
set_option linter.all false
set_option autoImplicit false
set_option maxRecDepth 100000
set_option maxHeartbeats 4000000
namespace Y
open PySem L2
/-- a def that draws, with a word about the heap at its entry -/
def DrawZ (K : PySem.W.Frag) (ok : (Hp → Prop) → List D → Prop) (pre : List D → D → Prop) : Sp := fun vs H Q _ => ∃ p us ds ns, ∃ Zp : Hp → Prop, vs = .ref p :: us ∧ H p = some (iv ns) ∧ IsAll K (hid [p] H) us ds ∧ ok Zp ds ∧ Zp (hid [p] H) ∧ (∀ H H', Ex H H' → Zp H → Zp H') ∧
  ∀ v H' d ns', Drw H H' p → H' p = some (iv ns') → Is K (hid [p] H') v d → pre ds d → Q v H'
section
variable {P : Program} {w : World} {K : PySem.W.Frag} {mg : Str → Option Value} {base : Heap}
theorem draw_okZ {x qual : Str} {st : Stmt} {f : Addr} {fd : FuncData} {N ps : List Str} {k : Nat} {ok : (Hp → Prop) → List D → Prop} {pre : List D → D → Prop} (F : Fun K x qual st f fd) (S : FnScope N ps (defScope st)) (len : ∀ Zp ds, ok Zp ds → ds.length + 1 = ps.length) (hN : ps.length ≤ N.length)
    (hb : ∀ (cdv : Value) (A : Around) (outer : List PySem.Env) (s : Shared) (H : Hp) (E : XK), Room k (A.deeper (PyProof.Rows.envOfC qual (defScope st) s.heap.objs.size f cdv)) →
      ∃ t, PSs (cxOf CX0 P w K mg base N qual (defScope st) f cdv A outer s H E).nox (defBody st) t ∧ ∀ ds p (Zp : Hp → Prop), ok Zp ds → ∀ D : Ends, OkD K H p (pre ds) D → ∀ ns, SD K [p] H Zp t D (entryD N p ds ns)) :
    FnOk P w K mg base CX0 (k + 1) f fd ps (DrawZ K ok pre) := by
  refine F.ok S (fun vs H Q E h => ?_) (fun cdv A outer s H vs Q E hr h => ?_)
  · obtain ⟨p, us, ds, ns, Zp, rfl, _, h1, h2, _⟩ := h
    have := len Zp ds h2
    rw [List.length_cons, h1.length, this]
  · obtain ⟨t, ht, hs⟩ := hb cdv A outer s H E hr
    refine ⟨t, ht, ?_⟩
    obtain ⟨p, us, ds, ns, Zp, rfl, hp, h1, h2, hz, zm, h3⟩ := h
    have := len Zp ds h2
    have e := env_entryD (N := N) hp h1 (by omega)
    refine hs ds p Zp h2 _ (fun v H' d ns' a b c e => h3 v H' d ns' a b c e) ns _ _ ⟨e.ex, e.inj, e.fr, e.len, e.val, e.own, ?_, fun {H H'} => zm H H'⟩
    rw [ows_entryD]
    exact hz
end
section
variable {K : PySem.W.Frag} {B : List Addr} {H0 : Hp} {Z : Hp → Prop} {E : List Slot} {S : List Int → List Slot} {i : Nat} {p : Addr} {De : Ends} {l : List D} {te : TE} {d : D} {ta tb : TE}
theorem en_drawZ {tr : TA} {ok : (Hp → Prop) → List D → Prop} {pre : List D → D → Prop} {P : D → Prop} {ex : XK} {Zp : Hp → Prop} (hd : DS S i p) (h : ∀ ns, EAC K B H0 Z tr (S ns) l) (hok : ok Zp l) (hz : ∀ H, Z H → Zp H) (zm : ∀ H H', Ex H H' → Zp H → Zp H') (hP : ∀ d, pre l d → P d) (him : ∀ d, pre l d → d.im = true) :
    EN K B H0 Z (tCall (DrawZ K ok pre) [] ex (tCons (tVar i) tr)) S p P := fun ns σ H e Q q => by
  obtain ⟨s1, s2⟩ := e.dat hd
  refine ⟨.ref p, s1, h ns σ H e _ fun vs H1 e1 h1 => ?_⟩
  have hs : ∀ a ∈ [p], a ∈ ows (S ns) := fun a ha => by simp at ha; rw [ha]; exact ds_in hd ns
  refine ⟨p, vs, l, ns, Zp, by simp, e1 _ _ s2, h1.mono (hid_sub hs), hok, zm _ _ (hid_sub hs) (hz _ (e.ext e1).pin), zm, fun v H' d ns' w hp hv hpre => ?_⟩
  have e' := (e.ext e1).drawn hd w hp
  refine q v d ns' H' (hP d hpre) e' (e1.drw.trans w) ?_
  have hc := (hv.mono (hid_le _ _)).clean e'.lsts (him d hpre)
  rwa [hid_ows hd ns ns'] at hc
theorem ec_ep (h : EC K B H0 Z te E d) : EP K B H0 Z te E d := fun σ H e Q q => h σ H e Q fun v H' x i => q v H' x (i.mono (hid_le _ _))
theorem r2_neTh {s : Str} {d : D} (hs : (D.str s).so = true) (hd : d.fl = true) (ho : d.so = true) : R2d K (rNeD K) (.tup [.str s, d]) (.tup [.str s, d]) (.bl false) := fun vx vy H h1 h2 Q q => by
  have dp : ∀ {v : V}, Is K H v (.tup [.str s, d]) → Dp K H v (.tuple [.str s, d.py]) := fun {v} h => by
    obtain ⟨a, xs, rfl, hq, hx⟩ := h.tup_inv
    cases hx with
    | cons a1 t1 =>
      cases t1 with
      | cons a2 t2 =>
        cases t2
        cases a1
        refine .tup hq (.cons (.str s) (.cons ?_ .nil))
        cases a2 <;> first | exact .non | exact .bl _ | exact .int _ | exact .str _ | (simp [D.fl] at hd)
  have sh : SeqAt.shaped (.tuple [.str s, d.py]) = true := by
    have := shaped_pl (d := .tup [.str s, d]) (by simp [D.so, soAll] at hs ho ⊢; exact ⟨hs, ho⟩) (by cases d <;> simp [D.dep, depAll, D.fl] at hd ⊢)
    simpa [D.py, pyAll] using this
  refine ⟨_, _, dp h1, dp h2, sh, sh, q _ H (Ex.refl H) ?_⟩
  have e : (!PyData.eqv (.tuple [.str s, d.py]) (.tuple [.str s, d.py])) = false := by
    cases d <;> simp [D.py, PyData.eqv, PyData.eqvAll, D.fl] at hd ⊢
  rw [e]
  exact .bl _
theorem str_cmp (s : Str) (h : (D.str s).so = true) : Cmpb (.str s) := ⟨rfl, h, by simp [D.dep]⟩
end
/-- a list of families, something else in it; no list of families -/
theorem gf1 {L : List (List Nat)} (g : KM.GF 1 L) : L = [[0]] := KM.gf_hp g gf_one fun S => by
  constructor
  · rintro ⟨l, hl, h⟩
    refine ⟨[0], by simp, fun x hx => ?_⟩
    simp at hx
    subst hx
    obtain ⟨y, r, e⟩ := List.exists_cons_of_ne_nil (g.lne l hl)
    have h1 := g.lt l hl y (by rw [e]; simp)
    have : y = 0 := by omega
    rw [← this]
    exact h y (by rw [e]; simp)
  · rintro ⟨l, hl, h⟩
    simp at hl
    subst hl
    obtain ⟨m, r, e⟩ := List.exists_cons_of_ne_nil g.ne
    refine ⟨m, by rw [e]; simp, fun x hx => ?_⟩
    have := g.lt m (by rw [e]; simp) x hx
    have : x = 0 := by omega
    rw [this]
    exact h 0 (by simp)
def sing (k : Nat) : Rws := List.replicate k (1, [[0]])
theorem siz_sing (k : Nat) : KM.siz (sing k) = k := by unfold KM.siz sing; simp
theorem gf_60 : KM.GF 60 [[0]] := gf_one.up (by decide)
theorem pin_60 {L : List (List Nat)} (g : KM.GF 1 L) : PinOk 1 L [(60, [[0]])] := by
  have e := gf1 g
  subst e
  exact ⟨⟨gf_one, rfl, fun r hr => by simp at hr; subst hr; exact gf_60⟩, by decide, fun r hr => by simp at hr; subst hr; decide, by unfold KM.put; rw [KM.srt_len]; decide⟩
theorem fms_app {C : Addr} (a b : Rws) : fms C (a ++ b) = fms C a ++ fms C b := by unfold fms; rw [List.map_append]
/-- what is drawn in a family's place -/
structure BadD (d : D) : Prop where
  im : d.im = true
  ty : ∃ t, d.tyN = some t
  fl : ∀ C CF, ∃ k, q_flist C CF [d] CF (xP k)
theorem bads4 : ∀ d ∈ ([.non, .int 0, .str "0", .tup [.tup [.int 0]]] : List D), BadD d := fun d hd => by
  simp only [List.mem_cons, List.not_mem_nil, or_false] at hd
  rcases hd with rfl | rfl | rfl | rfl
  · exact ⟨rfl, ⟨_, rfl⟩, fun C CF => ⟨-1, rfl, .inl ⟨_, _, rfl, rfl, rfl, rfl⟩⟩⟩
  · exact ⟨rfl, ⟨_, rfl⟩, fun C CF => ⟨-1, rfl, .inl ⟨_, _, rfl, rfl, rfl, rfl⟩⟩⟩
  · exact ⟨rfl, ⟨_, rfl⟩, fun C CF => ⟨-1, rfl, .inl ⟨_, _, rfl, rfl, rfl, rfl⟩⟩⟩
  · exact ⟨rfl, ⟨_, rfl⟩, fun C CF => ⟨0, rfl, .inr ⟨[], .tup [.int 0], "tuple", [], _, by simp, by simp, rfl, .inl rfl, rfl, rfl⟩⟩⟩
end Y
set_option Elab.async false
set_option linter.all false
set_option autoImplicit false
set_option maxRecDepth 100000
set_option maxHeartbeats 4000000
namespace Y
open PySem L2
section
variable {P : Program} {w : World} {K : PySem.W.Frag} {mg : Str → Option Value} {base : Heap}
/-! law_refusals -/
abbrev s_law_refusals : Stmt := topS 67
abbrev N_law_refusals : List Str := ["_law_draws_here", "_law_outer", "_law_inner_here", "_law_place", "_law_bad", "_law_wrong", "_law_way", "_law_big", "_law_row", "_law_due", "_law_one", "_law_two"]
theorem sc_law_refusals : FnScope N_law_refusals ["_law_draws_here", "_law_outer", "_law_inner_here"] (defScope s_law_refusals) := ⟨rfl, rfl, rfl, by decide +kernel, rfl, by decide +kernel, by decide +kernel⟩
def ok_lref (K : PySem.W.Frag) (C : Addr) (Zp : Hp → Prop) (ds : List D) : Prop := ∃ (n : Nat) (L : List (List Nat)) (rows : Rws) (q : Addr), KM.Pin n L rows ∧ KM.siz rows ≤ 11 ∧ ds = [famD C n L, .adr q] ∧ ∀ H, Zp H → RL K q (fms C rows) H
theorem ok_law_refusals {f C CN CF CZ CT : Addr} {fd : FuncData} (F : Fun K "_law_refusals" "_law_refusals" s_law_refusals f fd) (T : Txt mg) (fc : FamC K mg C) (c_law_pick : Cl P w K mg base 1 "_law_pick" (PickP K)) (c_single : ClK P w K mg base 7 C "single" (Pure K (p_single C))) (c_Family : ClI P w K mg base 5 C "Family" (InitP K C p_init))
    (c_law_put_word : Cl P w K mg base 9 "_law_put_word" (Pure K (p_pword C CN CF CZ))) (c_law_place_word : Cl P w K mg base 5 "_law_place_word" (Pure K (p_plword C CF CT))) :
    FnOk P w K mg base CX0 10 f fd ["_law_draws_here", "_law_outer", "_law_inner_here"] (DrawZ K (ok_lref K C) p_true) := by
  refine draw_okZ F sc_law_refusals (fun Zp ds h => by obtain ⟨_, _, _, _, _, _, rfl, _⟩ := h; rfl) (by decide) fun cdv A outer s H E hr => ?_
  have hu := hr.units
  refine ⟨_, (pss_cons (ps_set (i := 3) sc_law_refusals.nd rfl (Or.inl rfl) (pe_cl c_law_pick hr (by decide) (by rfl) (pa_cons (pv 0) (pa_cons (pe_op op_add (pe_callB (r := rLen K) call_lenY (by rfl) T.len PySem.boot_len (pa_cons (pv 2) pa_nil)) pe_int) pa_nil))))
    (pss_cons (ps_set (i := 4) sc_law_refusals.nd rfl (Or.inl rfl) (pe_ix (r := rIxL K) ix_list (pe_lst (pa_cons pe_non (pa_cons pe_int (pa_cons pe_str (pa_cons (pe_tup (pa_cons (pe_tup (pa_cons pe_int pa_nil)) pa_nil)) pa_nil))))) (pe_cl c_law_pick hr (by decide) (by rfl) (pa_cons (pv 0) (pa_cons pe_int pa_nil))) (fun _ _ => rfl)))
    (pss_cons (ps_set (i := 5) sc_law_refusals.nd rfl (Or.inl rfl) (pe_op op_cat (pe_op op_cat (pe_slice (r := rSlL K) sl_list (pv 2) (po_some pe_int) (po_some (pv 3))) (pe_lst (pa_cons (pv 4) pa_nil))) (pe_slice (r := rSlL K) sl_list (pv 2) (po_some (pv 3)) po_none)))
    (pss_cons (ps_for PassesOwn.never rfl (pi_range1 (by rfl) T.range (pa_cons pe_int pa_nil)) (pg_name (i := 6) sc_law_refusals.nd rfl (Or.inl rfl))
    (pss_cons (ps_if (pw_or (pt_cmpR (r := rNeD K) (op_neD hu) (pe_cl c_law_put_word hr (by decide) (by rfl) (pa_cons (pv 1) (pa_cons (pv 5) (pa_cons (pv 6) pa_nil)))) (pe_tup (pa_cons pe_str (pa_cons (pv 3) pa_nil))) (nomark _)) (pw_or1 (pt_cmpR (r := rNeD K) (op_neD hu) (pe_ix (r := rIxT K) ix_tup (pe_cl c_law_put_word hr (by decide) (by rfl) (pa_cons (pv 1) (pa_cons (pv 4) (pa_cons (pv 6) pa_nil)))) pe_int (fun _ _ => rfl)) pe_str (nomark _)))).pt (pss_one (ps_ret pe_bl)) pss_nil)
    (pss_cons (ps_if (pt_cmpR (r := rNeD K) (op_neD hu) (pe_cl c_law_put_word hr (by decide) (by rfl) (pa_cons (pv 1) (pa_cons (pe_op op_cat (pv 2) (pe_slice (r := rSlL K) sl_list (pv 2) (po_some pe_int) (po_some pe_int))) (pa_cons (pv 6) pa_nil)))) (pe_tup (pa_cons pe_str (pa_cons (pe_op op_add (pe_callB (r := rLen K) call_lenY (by rfl) T.len PySem.boot_len (pa_cons (pv 2) pa_nil)) pe_int) pa_nil))) (nomark _)) (pss_one (ps_ret pe_bl)) pss_nil)
    (pss_cons (ps_if (pt_cmpR (r := rNeD K) (op_neD hu) (pe_cl c_law_put_word hr (by decide) (by rfl) (pa_cons (pv 1) (pa_cons (pe_slice (r := rSlL K) sl_list (pv 2) (po_some pe_int) po_none) (pa_cons (pv 6) pa_nil)))) (pe_tup (pa_cons pe_str (pa_cons (pe_op op_sub (pe_callB (r := rLen K) call_lenY (by rfl) T.len PySem.boot_len (pa_cons (pv 2) pa_nil)) pe_int) pa_nil))) (nomark _)) (pss_one (ps_ret pe_bl)) pss_nil)
    (pss_cons (ps_set (i := 7) sc_law_refusals.nd rfl (Or.inl rfl) (pe_op op_cat (pe_lst (pa_cons (pe_clI c_Family hr (by decide) (by rfl) (pa_cons pe_int (pa_cons (pe_lst (pa_cons (pe_tup (pa_cons pe_int pa_nil)) pa_nil)) pa_nil))) pa_nil)) (pe_lc (own := [("_law_row", 8)]) (g := gName 8) rfl sc_law_refusals.nd (pi_list (pe_slice (r := rSlL K) sl_list (pv 2) (po_some pe_int) po_none)) (blkOk_by (N := N_law_refusals) (sc := defScope s_law_refusals) (by decide +kernel)) (fun _ _ _ _ _ => pg_name (i := 8) sc_law_refusals.nd rfl (Or.inl rfl)) (fun _ _ _ _ _ => pts_nil) (fun _ _ _ _ _ => (pe_cmeth0 c_single hr (by decide) (pe_glob (v := .ref C) (by rfl) fc.m rfl))))))
    (pss_cons (ps_set (i := 9) sc_law_refusals.nd rfl (Or.inl rfl) (pe_ix (r := rIxL K) ix_list (pe_lst (pa_cons pe_str (pa_cons pe_str pa_nil))) (pe_callTy call_int1 (by rfl) T.int (by decide +kernel) (pa_cons (pe_cmpR op_gt (pe_callB (r := rLen K) call_lenY (by rfl) T.len PySem.boot_len (pa_cons (pv 2) pa_nil)) pe_int (nomark _)) pa_nil)) (fun _ _ => rfl)))
    (pss_cons (ps_if (pw_or (pt_cmpR (r := rNeD K) (op_neD hu) (pe_ix (r := rIxT K) ix_tup (pe_cl c_law_put_word hr (by decide) (by rfl) (pa_cons (pv 1) (pa_cons (pv 7) (pa_cons (pv 6) pa_nil)))) pe_int (fun _ _ => rfl)) (pv 9) (nomark _)) (pw_or1 (pt_cmpR (r := rNeD K) (op_neD hu) (pe_cl c_law_put_word hr (by decide) (by rfl) (pa_cons (pv 1) (pa_cons pe_non (pa_cons (pv 6) pa_nil)))) (pe_tup (pa_cons pe_str (pa_cons (pe_un un_neg pe_int) pa_nil))) (nomark _)))).pt (pss_one (ps_ret pe_bl)) pss_nil)
    (pss_one (ps_if (pt_cmpR (r := rNeD K) (op_neD hu) (pe_cl c_law_put_word hr (by decide) (by rfl) (pa_cons (pv 1) (pa_cons (pe_op op_cat (pv 7) (pe_slice (r := rSlL K) sl_list (pv 2) (po_some pe_int) (po_some pe_int))) (pa_cons (pv 6) pa_nil)))) (pe_tup (pa_cons pe_str (pa_cons (pe_op op_add (pe_callB (r := rLen K) call_lenY (by rfl) T.len PySem.boot_len (pa_cons (pv 2) pa_nil)) pe_int) pa_nil))) (nomark _)) (pss_one (ps_ret pe_bl)) pss_nil)))))))))
    (pss_cons (ps_if (pw_or (pt_cmpR (r := rNeD K) (op_neD hu) (pe_cl c_law_place_word hr (by decide) (by rfl) (pa_cons (pv 5) (pa_cons pe_int (pa_cons pe_int pa_nil)))) (pe_tup (pa_cons pe_str (pa_cons (pv 3) pa_nil))) (nomark _)) (pw_or1 (pt_cmpR (r := rNeD K) (op_neD hu) (pe_cl c_law_place_word hr (by decide) (by rfl) (pa_cons pe_int (pa_cons pe_int (pa_cons pe_int pa_nil)))) (pe_tup (pa_cons pe_str (pa_cons (pe_un un_neg pe_int) pa_nil))) (nomark _)))).pt (pss_one (ps_ret pe_bl)) pss_nil)
    (pss_cons (ps_for PassesOwn.never rfl (pi_list (pe_lst (pa_cons (pe_un un_neg pe_int) (pa_cons (pe_callB (r := rLen K) call_lenY (by rfl) T.len PySem.boot_len (pa_cons (pv 2) pa_nil)) (pa_cons pe_bl (pa_cons pe_non pa_nil)))))) (pg_name (i := 10) sc_law_refusals.nd rfl (Or.inl rfl))
    (pss_one (ps_if (pt_cmpR (r := rNeD K) (op_neD hu) (pe_cl c_law_place_word hr (by decide) (by rfl) (pa_cons (pv 2) (pa_cons (pv 10) (pa_cons (pe_un un_neg pe_int) pa_nil)))) (pe_tup (pa_cons pe_str (pa_cons (pv 10) pa_nil))) (nomark _)) (pss_one (ps_ret pe_bl)) pss_nil)))
    (pss_cons (ps_for PassesOwn.never rfl (pi_list (pe_lst (pa_cons (pe_un un_neg pe_int) (pa_cons (pe_fld (pe_ix (r := rIxL K) ix_list (pv 2) pe_int (fun _ _ => rfl)) rfl) (pa_cons pe_bl (pa_cons pe_str pa_nil)))))) (pg_name (i := 11) sc_law_refusals.nd rfl (Or.inl rfl))
    (pss_one (ps_if (pt_cmpR (r := rNeD K) (op_neD hu) (pe_cl c_law_place_word hr (by decide) (by rfl) (pa_cons (pv 2) (pa_cons pe_int (pa_cons (pv 11) pa_nil)))) (pe_tup (pa_cons pe_str (pa_cons (pv 11) pa_nil))) (nomark _)) (pss_one (ps_ret pe_bl)) pss_nil)))
    (pss_one (ps_ret pe_bl))))))))), ?_⟩
  rintro ds p Zp ⟨n, L, rows, q, hp, h11, rfl, hz⟩ De o ns
  have hn := pin_len hp
  have hlen := hp.len
  have n1 := hp.g.n1
  have so1 : (D.str "family").so = true := by decide +kernel
  have so2 : (D.str "size").so = true := by decide +kernel
  have so3 : (D.str "thing").so = true := by decide +kernel
  have so4 : (D.str "good").so = true := by decide +kernel
  have so5 : (D.str "number").so = true := by decide +kernel
  -- the families
  have inn : ∀ {Z' : Hp → Prop} {E : List Slot}, (∀ H, Z' H → Zp H) → E[2]? = some (.val (.adr q)) → EC K [p] H Z' (tVar 2) E (.lst (fms C rows)) := fun {Z' E} h1 h2 => ec_adr h2 fun H h => hz H (h1 H h)
  have lenE : ∀ {Z' : Hp → Prop} {E : List Slot}, (∀ H, Z' H → Zp H) → E[2]? = some (.val (.adr q)) → EP K [p] H Z' (tCB (rLen K) (tCons (tVar 2) tNil)) E (iD n) := fun {Z' E} h1 h2 => ep_is (ep_cb (ea_cons (ec_ep (inn h1 h2)) ea_nil) (rc_lenLn (bs := rows) (g := fun r => famD C r.1 r.2))) (by rw [hlen])
  have len1 : ∀ {Z' : Hp → Prop} {E : List Slot}, (∀ H, Z' H → Zp H) → E[2]? = some (.val (.adr q)) → EP K [p] H Z' (tOp (rI0 fun i j => .int (i + j)) (tCB (rLen K) (tCons (tVar 2) tNil)) (tC (.int 1))) E (iD (n + 1)) := fun {Z' E} h1 h2 => ep_is (ep_op (lenE h1 h2) (ep_int (i := 1)) r2_int) (by unfold iD; rw [Int.natCast_add]; rfl)
  have hd0 : DS (fun ns => [dr p ns, .val (famD C n L), .val (.adr q), .no, .no, .no, .no, .no, .no, .no, .no, .no]) 0 p := ⟨fun _ => rfl, fun _ _ => rfl⟩
  refine sd_seq (sd_asgN (S := fun ns => [dr p ns, .val (famD C n L), .val (.adr q), .no, .no, .no, .no, .no, .no, .no, .no, .no]) hd0 (en_pick (b := n + 1) hd0 (fun _ => ec_im (len1 (fun _ h => h) rfl) rfl) (by omega)) (fun d ns hdp => sd_go ?_) ns)
  obtain ⟨pl, hpl, rfl⟩ := hdp
  have hd1 : DS (fun ns => [dr p ns, .val (famD C n L), .val (.adr q), .val (iD pl), .no, .no, .no, .no, .no, .no, .no, .no]) 0 p := ⟨fun _ => rfl, fun _ _ => rfl⟩
  refine sd_seq (sd_asgN (S := fun ns => [dr p ns, .val (famD C n L), .val (.adr q), .val (iD pl), .no, .no, .no, .no, .no, .no, .no, .no]) hd1 (en_ixL (l := [.non, .int 0, .str "0", .tup [.tup [.int 0]]]) (P := BadD) hd1 (fun ns => ec_lst (eac_cons (ec_im ep_non rfl) (eac_cons ec_int (eac_cons (ec_im ep_str rfl) (eac_cons (ec_im (ep_tup (l := [.tup [.int 0]]) (ea_cons (ep_tup (l := [.int 0]) (ea_cons ep_int ea_nil)) ea_nil)) rfl) eac_nil)))))
    (en_pick (b := 4) hd1 (fun _ => ec_int) (by decide)) bads4) (fun bad ns hb => sd_go ?_) ns)
  obtain ⟨bty, hbty⟩ := hb.ty
  let wr : List D := (fms C rows).take pl ++ [bad] ++ (fms C rows).drop pl
  have wrE : wr = fms C (rows.take pl) ++ bad :: fms C (rows.drop pl) := by
    simp only [wr]
    unfold fms
    rw [List.map_take, List.map_drop]
    simp
  have wrim : imAll wr = true := by
    rw [imAll_iff]
    intro d hd
    simp only [wr, List.mem_append, List.mem_singleton] at hd
    rcases hd with (hd | hd) | hd
    · exact imAll_iff.mp (fms_im C rows) d (List.mem_of_mem_take hd)
    · rw [hd]; exact hb.im
    · exact imAll_iff.mp (fms_im C rows) d (List.mem_of_mem_drop hd)
  refine sd_seq (sd_asgL (l := wr) (ef_is (ef_cat (el_new (ef_cat (el_new (ef_slAB (a := 0) (b := pl) (ec_ep (inn (fun _ h => h) rfl)) ep_n0 (ep_var (i := 3) (d := iD pl) rfl) (Nat.zero_le _) (by rw [fms_len]; omega))) (el_new (ef_lst (ea_cons (ep_var (i := 4) (d := bad) rfl) ea_nil))) (by rw [List.length_take, List.length_drop, fms_len]; simp; omega))) (el_new (ef_slA (a := pl) (ec_ep (inn (fun _ h => h) rfl)) (ep_var (i := 3) (d := iD pl) rfl) (by rw [fms_len]; omega))) (by rw [List.length_append, List.length_take, List.length_drop, List.length_drop, fms_len]; simp; omega)) (by simp [wr])) wrim (sd_go ?_))
  have hfl : q_flist C CF [.lst wr] CF (xP (pl : Int)) := ⟨rfl, .inr ⟨rows.take pl, bad, bty, fms C (rows.drop pl), .lst wr, by rw [List.length_take]; omega, by rw [fms_len, List.length_drop]; omega, hbty, .inr (by rw [wrE]), rfl, by rw [List.length_take, hlen, Nat.min_eq_left (by omega)]⟩⟩
  obtain ⟨kb, hkb⟩ := hb.fl C CF
  let Es : List Slot := [dr p ns, .val (famD C n L), .val (.adr q), .val (iD pl), .val bad, .val (.lst wr), .no, .no, .no, .no, .no, .no]
  refine sd_seq (sd_forRP (n := 2) (fun _ => True) (ea_cons ep_int ea_nil) (by decide) (fun _ => Es) rfl trivial (fun way hway _ => ?_) (fun _ => sd_go ?_))
  · -- one way
    have pw : ∀ {E : List Slot} {tb : TE} {b r : D}, E[1]? = some (.val (famD C n L)) → E[6]? = some (.val (iD way)) → EP K [p] H Zp tb E b → PW C CN CF CZ (famD C n L) b r → EP K [p] H Zp (tCall (Pure K (p_pword C CN CF CZ)) [] E0 (tCons (tVar 1) (tCons tb (tCons (tVar 6) tNil)))) E r := fun {E tb b r} h1 h6 hb h => ep_call (ea_cons (ep_var h1) (ea_cons hb (ea_cons (ep_var h6) ea_nil))) ⟨n, L, b, way, h, rfl⟩
    have sz : ∀ (rows' : Rws), rows'.length < 1000 → rows'.length ≠ n → PW C CN CF CZ (famD C n L) (.lst (fms C rows')) (wI "size" (rows'.length : Int)) := fun rows' h1 h2 => .size (.inl (.inr ⟨rfl, n, L, rows', _, h1, h2, .inr rfl, rfl, rfl⟩))
    have neS : ∀ {x y : Str} {a b : Int}, (D.str x).so = true → wI x a = wI y b → R2d K (rNeD K) (wI x a) (wI y b) (.bl false) := fun {x y a b} h e => by rw [← e]; exact r2_neD (b := false) (wI_cmp _ _ h) (wI_cmp _ _ h) ⟨fun h => by (cases h), fun h => absurd rfl h⟩
    have neT : ∀ {x : Str}, (D.str x).so = true → R2d K (rNeD K) (.str x) (.str x) (.bl false) := fun {x} h => r2_neD (b := false) (str_cmp _ h) (str_cmp _ h) ⟨fun h => by (cases h), fun h => absurd rfl h⟩
    have zz : ∀ H, Zp H → Zp H := fun _ h => h
    let E1 : List Slot := [dr p ns, .val (famD C n L), .val (.adr q), .val (iD pl), .val bad, .val (.lst wr), .val (iD way), .no, .no, .no, .no, .no]
    refine sd_seq (sd_if (E := E1) (b := false || false) (et_or (et_test (ep_op (pw rfl rfl (ep_var (i := 5) (d := .lst wr) rfl) (.fam (k := (pl : Int)) (.inl (.inl ⟨n, L, _, hfl, rfl⟩)))) (ep_tup (l := [.str "family", iD pl]) (ea_cons ep_str (ea_cons (ep_var (i := 3) (d := iD pl) rfl) ea_nil))) (neS so1 rfl))) fun _ => et_test (ep_op (ep_op (pw rfl rfl (ep_var (i := 4) (d := bad) rfl) (.fam (k := kb) (.inl (.inl ⟨n, L, _, hkb, rfl⟩)))) ep_int (r2_ixT (l := [.str "family", .int kb]) (i := 0) (d := .str "family") rfl)) ep_str (neT so1))) (fun h => by cases h) (fun _ => sd_go ?_))
    have e01 : ∀ {E : List Slot}, E[2]? = some (.val (.adr q)) → EF K [p] H Zp (tSl (rSlL K) (tVar 2) (tPart (tC (.int 0))) (tPart (tC (.int 1)))) E (fms C (rows.take 1)) := fun {E} h2 => ef_is (ef_slAB (a := 0) (b := 1) (ec_ep (inn zz h2)) ep_n0 ep_n1 (Nat.zero_le _) (by rw [fms_len]; omega)) (by unfold fms; simp [List.map_take])
    have e1_ : ∀ {E : List Slot}, E[2]? = some (.val (.adr q)) → EF K [p] H Zp (tSl (rSlL K) (tVar 2) (tPart (tC (.int 1))) tNoPart) E (fms C (rows.drop 1)) := fun {E} h2 => ef_is (ef_slA (a := 1) (ec_ep (inn zz h2)) ep_n1 (by rw [fms_len]; omega)) (by unfold fms; rw [List.map_drop])
    have lt1 : (rows.take 1).length = 1 := by rw [List.length_take]; omega
    refine sd_seq (sd_if (E := E1) (b := false) (et_test (ep_op (pw rfl rfl (EF.p (ef_is (ef_cat (el_adr (i := 2) rfl hz) (el_new (e01 rfl)) (by rw [fms_len, fms_len]; omega)) (fms_app rows (rows.take 1)).symm)) (sz (rows ++ rows.take 1) (by rw [List.length_append]; omega) (by rw [List.length_append]; omega))) (ep_tup (l := [.str "size", iD (n + 1)]) (ea_cons ep_str (ea_cons (len1 zz rfl) ea_nil))) (neS (b := ((n + 1 : Nat) : Int)) so2 (by rw [List.length_append, lt1, hlen])))) (fun h => by cases h) (fun _ => sd_go ?_))
    refine sd_seq (sd_if (E := E1) (b := false) (et_test (ep_op (pw rfl rfl (EF.p (e1_ rfl)) (sz (rows.drop 1) (by rw [List.length_drop]; omega) (by rw [List.length_drop]; omega))) (ep_tup (l := [.str "size", .int ((n : Int) - 1)]) (ea_cons ep_str (ea_cons (ep_op (lenE zz rfl) (ep_int (i := 1)) r2_int) ea_nil))) (neS (b := (n : Int) - 1) so2 (by rw [List.length_drop, hlen]; congr 1; omega)))) (fun h => by cases h) (fun _ => sd_go ?_))
    -- a great one among single ones
    let bg : Rws := (60, [[0]]) :: sing (n - 1)
    have bgl : bg.length = n := by simp only [bg, sing, List.length_cons, List.length_replicate]; omega
    refine sd_seq (sd_asgO (l := fms C bg) (ef_is (ef_cat (l := [famD C 60 [[0]]]) (m := fms C (sing (n - 1))) (el_new (ef_lst (ea_cons (ep_is (ep_make (ns := ["things", "lots"]) (m := [iD 60, tsD (KM.leastLots [[0]])]) (ea_cons (ep_nat (n := 60)) (ea_cons (EF.p (ef_lst (ea_cons (ep_tup (l := [.int 0]) (ea_cons ep_int ea_nil)) ea_nil))) ea_nil)) ⟨60, [[0]], lsD [[0]], ⟨by decide, by decide, by decide, by decide, by decide, by decide, by decide⟩, .inr rfl, rfl, rfl, rfl⟩) (by rw [KM.least_good gf_one.g]; rfl)) ea_nil)))
      (el_new (ef_is (ef_lcL1 (j := 8) (c := fun (r : Nat × List (List Nat)) => famD C r.1 r.2) (ts := rows.drop 1) (fun _ => famD C 1 [[0]]) (EF.p (e1_ rfl)) (fun _ _ => famD_im _ _ _) (by rw [List.length_drop]; omega) (fun _ _ => ep_cmeth0 ep_ref ⟨rfl, rfl⟩) (fun _ _ => famD_im _ _ _)) (by unfold fms sing; rw [List.map_replicate, List.map_const', List.length_drop, hlen]))) (by rw [fms_len]; simp [sing]; omega)) rfl) (fms_im _ _) fun q7 => sd_go ?_)
    refine sd_seq (sd_asg (d := .str (if decide ((1 : Int) < (n : Int)) = true then "number" else "good")) (ep_op (EF.p (ef_lst (l := [.str "good", .str "number"]) (ea_cons ep_str (ea_cons ep_str ea_nil)))) (ep_cb (ea_cons (ep_op (lenE zz rfl) (ep_int (i := 1)) (r2_cmp (g := fun i j => decide (j < i)))) ea_nil) rc_intB) (r2_ixL ?_)) rfl (sd_go ?_))
    · by_cases h : (1 : Int) < (n : Int)
      · rw [decide_eq_true h]; rfl
      · rw [decide_eq_false h]; rfl
    let E2 : List Slot := [dr p ns, .val (famD C n L), .val (.adr q), .val (iD pl), .val bad, .val (.lst wr), .val (iD way), .own q7 (fms C bg), .no, .val (.str (if decide ((1 : Int) < (n : Int)) = true then "number" else "good")), .no, .no]
    have hbig : ∃ r : D, PW C CN CF CZ (famD C n L) (.lst (fms C bg)) (.tup [.str (if decide ((1 : Int) < (n : Int)) = true then "number" else "good"), r]) := by
      by_cases h : (1 : Int) < (n : Int)
      · rw [decide_eq_true h]
        refine ⟨.str "things", .number (.inr ⟨rfl, n, L, bg, _, bgl, by omega, ?_, .inr rfl, rfl, rfl⟩)⟩
        show 60 < KM.siz bg
        have : KM.siz bg = 60 + KM.siz (sing (n - 1)) := by simp only [bg, KM.siz, List.map_cons, List.sum_cons]
        rw [this, siz_sing]
        omega
      · rw [decide_eq_false h]
        have n1' : n = 1 := by omega
        subst n1'
        exact ⟨.int 0, .good ⟨1, L, bg, _, (pin_60 hp.g).call, .inr rfl, rfl, rfl⟩⟩
    obtain ⟨rb, hrb⟩ := hbig
    have soD : (D.str (if decide ((1 : Int) < (n : Int)) = true then "number" else "good")).so = true := by split; exact so5; exact so4
    refine sd_seq (sd_if (E := E2) (b := false || false) (et_or (et_test (ep_op (ep_op (pw rfl rfl (ep_own (i := 7) rfl) hrb) ep_int (r2_ixT (i := 0) (d := .str (if decide ((1 : Int) < (n : Int)) = true then "number" else "good")) rfl)) (ep_var (i := 9) rfl) (neT soD))) fun _ => et_test (ep_op (pw rfl rfl ep_non (.fam (k := -1) (.inl (.inl ⟨n, L, _, ⟨rfl, .inl ⟨_, _, rfl, rfl, rfl, rfl⟩⟩, rfl⟩)))) (ep_tup (l := [.str "family", .int (-1)]) (ea_cons ep_str (ea_cons (ep_un (x := .int 1) ep_int r1_neg) ea_nil))) (neS so1 rfl))) (fun h => by cases h) (fun _ => sd_go ?_))
    refine sd_if (E := E2) (b := false) (et_test (ep_op (pw rfl rfl (EF.p (ef_is (ef_cat (el_own (i := 7) rfl) (el_new (e01 rfl)) (by rw [fms_len, fms_len]; omega)) (fms_app bg (rows.take 1)).symm)) (sz (bg ++ rows.take 1) (by rw [List.length_append]; omega) (by rw [List.length_append]; omega))) (ep_tup (l := [.str "size", iD (n + 1)]) (ea_cons ep_str (ea_cons (len1 zz rfl) ea_nil))) (neS (b := ((n + 1 : Nat) : Int)) so2 (by rw [List.length_append, lt1, bgl])))) (fun h => by cases h) (fun _ => sd_lp trivial (.eq (.eq (.eq (.eq (.eq (.eq (.no (.no (.no (.no (.no (.no .nil)))))))))))))
  -- places
  have zz : ∀ H, Zp H → Zp H := fun _ h => h
  have neI : ∀ {a b : Int}, a = b → R2d K (rNeD K) (wI "family" a) (wI "family" b) (.bl false) := fun {a b} e => by subst e; exact r2_neD (b := false) (wI_cmp _ _ so1) (wI_cmp _ _ so1) ⟨fun h => by (cases h), fun h => absurd rfl h⟩
  refine sd_seq (sd_if (E := Es) (b := false || false) (et_or (et_test (ep_op (ep_call (d := wI "family" (pl : Int)) (ea_cons (ep_var (i := 5) (d := .lst wr) rfl) (ea_cons (ep_int (i := 0)) (ea_cons (ep_int (i := 0)) ea_nil))) ⟨_, _, _, .fam (.inl ⟨_, _, _, hfl, rfl⟩), rfl⟩) (ep_tup (l := [.str "family", iD pl]) (ea_cons ep_str (ea_cons (ep_var (i := 3) (d := iD pl) rfl) ea_nil))) (neI rfl))) fun _ => et_test (ep_op (ep_call (d := wI "family" (-1)) (ea_cons (ep_int (i := 7)) (ea_cons (ep_int (i := 0)) (ea_cons (ep_int (i := 0)) ea_nil))) ⟨_, _, _, .fam (.inl ⟨_, _, _, ⟨rfl, .inl ⟨_, _, rfl, rfl, rfl, rfl⟩⟩, rfl⟩), rfl⟩) (ep_tup (l := [.str "family", .int (-1)]) (ea_cons ep_str (ea_cons (ep_un (x := .int 1) ep_int r1_neg) ea_nil))) (neI rfl))) (fun h => by cases h) (fun _ => sd_go ?_))
  have so6 : (D.str "0").so = true := by decide +kernel
  refine sd_seq (sd_forLZ (c := fun (d : D) => d) (ts := [.int (-1), iD n, .bl true, .non]) (fun _ E => E = Es) (ec_new (l := [.int (-1), iD n, .bl true, .non]) (ef_lst (ea_cons (ep_un (x := .int 1) ep_int r1_neg) (ea_cons (lenE zz rfl) (ea_cons ep_bl (ea_cons ep_non ea_nil))))) rfl) rfl ?_ ?_)
  · rintro Z' hz' i a E hai rfl
    have ha : a.tyN.isSome = true ∧ a.fl = true ∧ a.so = true ∧ isTh a rows.length = false := by
      have := List.mem_of_getElem? hai
      simp only [List.mem_cons, List.not_mem_nil, or_false] at this
      rcases this with rfl | rfl | rfl | rfl
      · exact ⟨rfl, rfl, rfl, by simp [isTh]⟩
      · exact ⟨rfl, rfl, rfl, by rw [isTh_nat, hlen]; simp⟩
      · exact ⟨rfl, rfl, rfl, rfl⟩
      · exact ⟨rfl, rfl, rfl, rfl⟩
    refine sd_if (b := false) (et_test (ep_op (ep_call (d := .tup [.str "thing", a]) (ea_cons (ec_ep (inn hz' rfl)) (ea_cons (ep_var (i := 10) (d := a) rfl) (ea_cons (ep_un (x := .int 1) ep_int r1_neg) ea_nil))) ⟨_, _, _, .thing ha.2.1 (.inr ⟨rfl, rows, _, _, _, by omega, .inr rfl, rfl, .inl ⟨ha.1, ha.2.1, ha.2.2.2, rfl⟩⟩), rfl⟩) (ep_tup (l := [.str "thing", a]) (ea_cons ep_str (ea_cons (ep_var (i := 10) (d := a) rfl) ea_nil))) (r2_neTh so3 ha.2.1 ha.2.2.1))) (fun h => by cases h) (fun _ => sd_lw rfl (.eq (.eq (.eq (.eq (.eq (.eq (.no (.no (.no (.no (.no (.no .nil)))))))))))))
  · rintro E rfl
    have h0 : 0 < rows.length := by omega
    refine sd_go (sd_seq (sd_forLZ (c := fun (d : D) => d) (ts := [.int (-1), iD (KM.rw_ rows 0).1, .bl true, .str "0"]) (fun _ E => E = Es) (ec_new (l := [.int (-1), iD (KM.rw_ rows 0).1, .bl true, .str "0"]) (ef_lst (ea_cons (ep_un (x := .int 1) ep_int r1_neg) (ea_cons (ep_fld (ep_op (ec_ep (inn zz rfl)) (ep_int (i := ((0 : Nat) : Int))) (r2_ixL (atI_nat (fms_at h0)))) fc.ob.cl fc.nt rfl) (ea_cons ep_bl (ea_cons ep_str ea_nil))))) rfl) rfl ?_ ?_))
    · rintro Z' hz' i a E hai rfl
      have ha : a.tyN.isSome = true ∧ a.fl = true ∧ a.so = true ∧ isTh a (KM.rw_ rows 0).1 = false := by
        have := List.mem_of_getElem? hai
        simp only [List.mem_cons, List.not_mem_nil, or_false] at this
        rcases this with rfl | rfl | rfl | rfl
        · exact ⟨rfl, rfl, rfl, by simp [isTh]⟩
        · exact ⟨rfl, rfl, rfl, by rw [isTh_nat]; simp⟩
        · exact ⟨rfl, rfl, rfl, rfl⟩
        · exact ⟨rfl, rfl, so6, rfl⟩
      refine sd_if (b := false) (et_test (ep_op (ep_call (d := .tup [.str "thing", a]) (ea_cons (ec_ep (inn hz' rfl)) (ea_cons (ep_n0) (ea_cons (ep_var (i := 11) (d := a) rfl) ea_nil))) ⟨_, _, _, .thing ha.2.1 (.inr ⟨rfl, rows, _, _, _, by omega, .inr rfl, rfl, .inr ⟨0, h0, rfl, ha.1, ha.2.1, ha.2.2.2, rfl⟩⟩), rfl⟩) (ep_tup (l := [.str "thing", a]) (ea_cons ep_str (ea_cons (ep_var (i := 11) (d := a) rfl) ea_nil))) (r2_neTh so3 ha.2.1 ha.2.2.1))) (fun h => by cases h) (fun _ => sd_lw rfl (.eq (.eq (.eq (.eq (.eq (.eq (.no (.no (.no (.no (.no (.no .nil)))))))))))))
    · rintro E rfl
      have hdE : DS (fun ns => [dr p ns, .val (famD C n L), .val (.adr q), .val (iD pl), .val bad, .val (.lst wr), .no, .no, .no, .no, .no, .no]) 0 p := ⟨fun _ => rfl, fun _ _ => rfl⟩
      exact sd_go (sd_retD (S := fun ns => [dr p ns, .val (famD C n L), .val (.adr q), .val (iD pl), .val bad, .val (.lst wr), .no, .no, .no, .no, .no, .no]) (d := .bl true) hdE (ec_im ep_bl rfl) o rfl)
end
end Y
set_option Elab.async false
set_option linter.all false
set_option autoImplicit false
set_option maxRecDepth 100000
set_option maxHeartbeats 8000000
namespace Y
open PySem L2
theorem fms_blk {C : Addr} (rows : Rws) : fms C (KM.blkR rows) = rows.map fun r => famD C r.1 (KM.blockerLots r.2) := by
  unfold fms KM.blkR
  rw [List.map_map]
  rfl
theorem ts_cmp (rows : Rws) : Cmpb (.lst (rows.map fun r => tsD r.2)) := (cmpb_list fun d hd => by
  obtain ⟨r, _, rfl⟩ := List.mem_map.mp hd
  have c := (lsD_cmp r.2).2
  refine ⟨c.pl, c.so, ?_⟩
  show depAll (r.2.map tD) + 1 ≤ 50
  have : depAll (r.2.map tD) ≤ 1 := depAll_le.mpr fun d hd => by
    obtain ⟨l, _, rfl⟩ := List.mem_map.mp hd
    exact (tD_ok l).2.2
  omega).1
section
variable {P : Program} {w : World} {K : PySem.W.Frag} {mg : Str → Option Value} {base : Heap}
/-! law_int -/
abbrev s_law_int : Stmt := topS 44
abbrev N_law_int : List Str := ["_law_value"]
theorem sc_law_int : FnScope N_law_int ["_law_value"] (defScope s_law_int) := ⟨rfl, rfl, rfl, by decide +kernel, rfl, by decide +kernel, by decide +kernel⟩
def p_lint (ds : List D) (d : D) : Prop := ∃ k : Int, ds = [.int k] ∧ d = .bl true
theorem ok_law_int {f : Addr} {fd : FuncData} (F : Fun K "_law_int" "_law_int" s_law_int f fd) (T : Txt mg) : FnOk P w K mg base CX0 1 f fd ["_law_value"] (Pure K p_lint) := by
  refine pure_ok F sc_law_int (fun ds d h => by obtain ⟨_, rfl, _⟩ := h; rfl) (by decide) fun cdv A outer s H E hr => ?_
  refine ⟨_, (pss_one (ps_ret (pe_and (pe_callB (r := rIsi K) call_isi (by rfl) T.isinstance (by decide +kernel) (pa_cons (pv 0) (pa_cons (pe_bltn (v := .ty "int") (by rfl) T.int (by decide +kernel) rfl) pa_nil))) (pe_one (pe_not (pe_callB (r := rIsi K) call_isi (by rfl) T.isinstance (by decide +kernel) (pa_cons (pv 0) (pa_cons (pe_bltn (v := .ty "bool") (by rfl) T.bool (by decide +kernel) rfl) pa_nil)))))))), ?_⟩
  rintro ds d ⟨k, rfl, rfl⟩ De o
  obtain ⟨k1, k2, _⟩ := kit_int (ty := "int") (by simp)
  exact sd_ret (ep_is (ep_andV (c := true) (ep_isi (d := .int k) (ep_var rfl) rfl k1) fun h1 => ep_is (ep_notV (ep_isi (d := .int k) (ep_var rfl) rfl k2)) rfl) rfl) o.rt
/-! law -/
abbrev s_law : Stmt := topS 68
abbrev N_law : List Str := ["_law_script", "_law_draws_here", "_law_built", "_law_size", "_law_lots", "_law_rows", "_law_starts_here", "_law_outer", "_law_inner_here", "_law_row", "_law_fam", "_law_due", "_law_thing", "_law_at"]
theorem sc_law : FnScope N_law ["_law_script"] (defScope s_law) := ⟨rfl, rfl, rfl, by decide +kernel, rfl, by decide +kernel, by decide +kernel⟩
def p_law (ds : List D) (d : D) : Prop := ∃ ns : List Int, ns.length ≤ 63 ∧ ds = [.lst (ns.map D.int)] ∧ d = .bl true
theorem ok_law {f C CN CF CZ CT : Addr} {fd : FuncData} (F : Fun K "law" "law" s_law f fd) (T : Txt mg) (fc : FamC K mg C) (c_law_draws : Cl P w K mg base 1 "_law_draws" (FreshN K ok_draws p_draws)) (c_law_small : Cl P w K mg base 4 "_law_small" (DrawA K p_fam4)) (c_law_pick : Cl P w K mg base 1 "_law_pick" (PickP K)) (c_law_blocker : Cl P w K mg base 3 "_law_blocker" (Fresh K p_law_blocker))
    (c_law_inner : Cl P w K mg base 5 "_law_inner" (DrawP K ok_inner p_inner)) (c_law_starts : Cl P w K mg base 1 "_law_starts" (Fresh K p_lstarts)) (c_Family : ClI P w K mg base 5 C "Family" (InitP K C p_init)) (c_call : ClC P w K mg base 7 C (PureE K (p_fcall C) (q_fcallE C CN CF CZ))) (c_law_put_lots : Cl P w K mg base 2 "_law_put_lots" (Fresh K p_lput))
    (c_put_in : Cl P w K mg base 8 "put_in" (PureE K (p_fcall C) (q_fcallE C CN CF CZ))) (c_eq : ClO P w K mg base 1 C "__eq__" (Pure K (p_eq C))) (hnf : PySem.W.notFirst K C (.ref C) = true) (c_inv : ClO P w K mg base 7 C "__invert__" (Pure K (p_invert C))) (c_law_held_sets : Cl P w K mg base 5 "_law_held_sets" (DrawP K (ok_lheld C) p_true))
    (c_place_of : Cl P w K mg base 4 "place_of" (PureE K (p_place C) (q_place C CF CT))) (c_law_int : Cl P w K mg base 1 "_law_int" (Pure K p_lint)) (c_law_one_less : Cl P w K mg base 9 "_law_one_less" (Pure K (p_less C))) (c_law_twice : Cl P w K mg base 9 "_law_twice" (DrawP K (ok_twice C) p_true)) (c_law_refusals : Cl P w K mg base 10 "_law_refusals" (DrawZ K (ok_lref K C) p_true)) :
    FnOk P w K mg base CX0 11 f fd ["_law_script"] (Pure K p_law) := by
  refine pure_ok F sc_law (fun ds d h => by obtain ⟨_, _, rfl, _⟩ := h; rfl) (by decide) fun cdv A outer s H E hr => ?_
  have hu := hr.units
  refine ⟨_, (pss_cons (ps_set (i := 1) sc_law.nd rfl (Or.inl rfl) (pe_cl c_law_draws hr (by decide) (by rfl) (pa_cons (pv 0) pa_nil)))
    (pss_cons (ps_set (i := 2) sc_law.nd rfl (Or.inl rfl) (pe_cl c_law_small hr (by decide) (by rfl) (pa_cons (pv 1) pa_nil)))
    (pss_cons (ps_set (i := 3) sc_law.nd rfl (Or.inl rfl) (pe_ix (r := rIxL K) ix_list (pv 2) pe_int (fun _ _ => rfl)))
    (pss_cons (ps_set (i := 4) sc_law.nd rfl (Or.inl rfl) (pe_ix (r := rIxL K) ix_list (pv 2) pe_int (fun _ _ => rfl)))
    (pss_cons (ps_if (pt_cmpR op_eq (pe_cl c_law_pick hr (by decide) (by rfl) (pa_cons (pv 1) (pa_cons pe_int pa_nil))) pe_int (nomark _)) (pss_one (ps_set (i := 4) sc_law.nd rfl (Or.inl rfl) (pe_cl c_law_blocker hr (by decide) (by rfl) (pa_cons (pv 3) (pa_cons (pv 4) pa_nil))))) pss_nil)
    (pss_cons (ps_set (i := 5) sc_law.nd rfl (Or.inl rfl) (pe_cl c_law_inner hr (by decide) (by rfl) (pa_cons (pv 1) (pa_cons (pv 3) pa_nil))))
    (pss_cons (ps_set (i := 6) sc_law.nd rfl (Or.inl rfl) (pe_cl c_law_starts hr (by decide) (by rfl) (pa_cons (pv 5) pa_nil)))
    (pss_cons (ps_set (i := 7) sc_law.nd rfl (Or.inl rfl) (pe_clI c_Family hr (by decide) (by rfl) (pa_cons (pv 3) (pa_cons (pv 4) pa_nil))))
    (pss_cons (ps_setLc (i := 8) (own := [("_law_row", 9)]) (g := gName 9) rfl sc_law.nd rfl rfl (sw_true rfl rfl rfl (by decide +kernel)) (pi_list (pv 5)) (blkOk_by (N := N_law) (sc := defScope s_law) (by decide +kernel)) (fun _ _ _ _ _ => pg_name (i := 9) sc_law.nd rfl (Or.inl rfl)) (fun _ _ _ _ _ => pts_nil) (fun _ _ _ _ _ => (pe_clI c_Family hr (by decide) (by rfl) (pa_cons (pe_ix (r := rIxL K) ix_list (pv 9) pe_int (fun _ _ => rfl)) (pa_cons (pe_ix (r := rIxL K) ix_list (pv 9) pe_int (fun _ _ => rfl)) pa_nil)))))
    (pss_cons (ps_set (i := 10) sc_law.nd rfl (Or.inl rfl) (pe_clC c_call hr (by decide) takes0 (pv 7) (pa_cons (pv 8) pa_nil)))
    (pss_cons (ps_set (i := 11) sc_law.nd rfl (Or.inl rfl) (pe_cl c_law_put_lots hr (by decide) (by rfl) (pa_cons (pv 4) (pa_cons (pv 5) pa_nil))))
    (pss_cons (ps_if (pw_or (pt_not (pt_val (pe_callB (r := rIsi K) call_isi (by rfl) T.isinstance (by decide +kernel) (pa_cons (pv 10) (pa_cons (pe_glob (v := .ref C) (by rfl) fc.m rfl) pa_nil))))) (pw_or (pt_cmpR op_ne (pe_fld (pv 10) rfl) (pe_ix (r := rIxL K) ix_list (pv 6) (pe_un un_neg pe_int) (fun _ _ => rfl)) (nomark _)) (pw_or1 (pt_cmpR (r := rNeD K) (op_neD hu) (pe_fld (pv 10) rfl) (pe_callTy (r := rTupOf K) call_tupY (by rfl) T.tuple (by decide +kernel) (pa_cons (pv 11) pa_nil)) (nomark _))))).pt (pss_one (ps_ret pe_bl)) pss_nil)
    (pss_cons (ps_if (pw_or (pt_not (pt_cmpR (r := rEqO K C (Pure K (p_eq C))) (op_clO c_eq hnf hr (by decide)) (pe_cl c_put_in hr (by decide) (by rfl) (pa_cons (pv 7) (pa_cons (pe_callTy (r := rTupOf K) call_tupY (by rfl) T.tuple (by decide +kernel) (pa_cons (pv 8) pa_nil)) pa_nil))) (pv 10) (nomark _))) (pw_or1 (pt_cmpR (r := rNeD K) (op_neD hu) (pe_lc (own := [("_law_row", 9)]) (g := gName 9) rfl sc_law.nd (pi_list (pv 8)) (blkOk_by (N := N_law) (sc := defScope s_law) (by decide +kernel)) (fun _ _ _ _ _ => pg_name (i := 9) sc_law.nd rfl (Or.inl rfl)) (fun _ _ _ _ _ => pts_nil) (fun _ _ _ _ _ => (pe_fldY (K := K) (pv 9) (by rfl) rfl))) (pe_lc (own := [("_law_row", 9)]) (g := gName 9) rfl sc_law.nd (pi_list (pv 5)) (blkOk_by (N := N_law) (sc := defScope s_law) (by decide +kernel)) (fun _ _ _ _ _ => pg_name (i := 9) sc_law.nd rfl (Or.inl rfl)) (fun _ _ _ _ _ => pts_nil) (fun _ _ _ _ _ => (pe_callTy (r := rTupOf K) call_tupY (by rfl) T.tuple (by decide +kernel) (pa_cons (pe_ix (r := rIxL K) ix_list (pv 9) pe_int (fun _ _ => rfl)) pa_nil)))) (nomark _)))).pt (pss_one (ps_ret pe_bl)) pss_nil)
    (pss_cons (ps_if (pt_not (pt_val (pe_cl c_law_held_sets hr (by decide) (by rfl) (pa_cons (pv 1) (pa_cons (pv 10) (pa_cons (pv 4) (pa_cons (pv 5) pa_nil))))))) (pss_one (ps_ret pe_bl)) pss_nil)
    (pss_cons (ps_if (pt_not (pt_cmpR (r := rEqO K C (Pure K (p_eq C))) (op_clO c_eq hnf hr (by decide)) (pe_un (r := rInv C (Pure K (p_invert C))) (un_clO c_inv hr (by decide)) (pv 10)) (pe_clC c_call hr (by decide) takes0 (pe_un (r := rInv C (Pure K (p_invert C))) (un_clO c_inv hr (by decide)) (pv 7)) (pa_cons (pe_lc (own := [("_law_row", 9)]) (g := gName 9) rfl sc_law.nd (pi_list (pv 8)) (blkOk_by (N := N_law) (sc := defScope s_law) (by decide +kernel)) (fun _ _ _ _ _ => pg_name (i := 9) sc_law.nd rfl (Or.inl rfl)) (fun _ _ _ _ _ => pts_nil) (fun _ _ _ _ _ => (pe_un (r := rInv C (Pure K (p_invert C))) (un_clO c_inv hr (by decide)) (pv 9)))) pa_nil)) (nomark _))) (pss_one (ps_ret pe_bl)) pss_nil)
    (pss_cons (ps_for PassesOwn.never rfl (pi_range1 (by rfl) T.range (pa_cons (pv 3) pa_nil)) (pg_name (i := 12) sc_law.nd rfl (Or.inl rfl))
    (pss_cons (ps_set (i := 13) sc_law.nd rfl (Or.inl rfl) (pe_cl c_law_pick hr (by decide) (by rfl) (pa_cons (pv 1) (pa_cons (pe_ix (r := rIxL K) ix_list (pe_ix (r := rIxL K) ix_list (pv 5) (pv 12) (fun _ _ => rfl)) pe_int (fun _ _ => rfl)) pa_nil))))
    (pss_cons (ps_if (pw_or (pt_cmpR op_ne (pe_cl c_place_of hr (by decide) (by rfl) (pa_cons (pv 8) (pa_cons (pv 12) (pa_cons (pv 13) pa_nil)))) (pe_op op_add (pe_ix (r := rIxL K) ix_list (pv 6) (pv 12) (fun _ _ => rfl)) (pv 13)) (nomark _)) (pw_or1 (pt_not (pt_val (pe_cl c_law_int hr (by decide) (by rfl) (pa_cons (pe_cl c_place_of hr (by decide) (by rfl) (pa_cons (pv 8) (pa_cons (pv 12) (pa_cons pe_int pa_nil)))) pa_nil)))))).pt (pss_one (ps_ret pe_bl)) pss_nil)
    (pss_one (ps_if (pt_not (pt_val (pe_cl c_law_one_less hr (by decide) (by rfl) (pa_cons (pv 10) (pa_cons (pv 7) (pa_cons (pv 8) (pa_cons (pv 12) (pa_cons (pv 13) (pa_cons (pe_ix (r := rIxL K) ix_list (pv 6) (pv 12) (fun _ _ => rfl)) pa_nil))))))))) (pss_one (ps_ret pe_bl)) pss_nil)))))
    (pss_cons (ps_if (pw_or (pt_not (pt_val (pe_cl c_law_twice hr (by decide) (by rfl) (pa_cons (pv 1) (pa_cons (pv 7) (pa_cons (pv 8) (pa_cons (pv 10) pa_nil))))))) (pw_or1 (pt_not (pt_val (pe_cl c_law_refusals hr (by decide) (by rfl) (pa_cons (pv 1) (pa_cons (pv 7) (pa_cons (pv 8) pa_nil)))))))).pt (pss_one (ps_ret pe_bl)) pss_nil)
    (pss_one (ps_ret (pe_and (pe_cmpR (r := rEqD K) (op_eqD hu) (pe_fld (pv 7) rfl) (pe_callTy (r := rTupOf K) call_tupY (by rfl) T.tuple (by decide +kernel) (pa_cons (pv 4) pa_nil)) (nomark _)) (pe_one (pe_cmpR (r := rEqD K) (op_eqD hu) (pe_lc (own := [("_law_row", 9)]) (g := gName 9) rfl sc_law.nd (pi_list (pv 8)) (blkOk_by (N := N_law) (sc := defScope s_law) (by decide +kernel)) (fun _ _ _ _ _ => pg_name (i := 9) sc_law.nd rfl (Or.inl rfl)) (fun _ _ _ _ _ => pts_nil) (fun _ _ _ _ _ => (pe_fldY (K := K) (pv 9) (by rfl) rfl))) (pe_lc (own := [("_law_row", 9)]) (g := gName 9) rfl sc_law.nd (pi_list (pv 5)) (blkOk_by (N := N_law) (sc := defScope s_law) (by decide +kernel)) (fun _ _ _ _ _ => pg_name (i := 9) sc_law.nd rfl (Or.inl rfl)) (fun _ _ _ _ _ => pts_nil) (fun _ _ _ _ _ => (pe_callTy (r := rTupOf K) call_tupY (by rfl) T.tuple (by decide +kernel) (pa_cons (pe_ix (r := rIxL K) ix_list (pv 9) pe_int (fun _ _ => rfl)) pa_nil)))) (nomark _))))))))))))))))))))))), ?_⟩
  rintro ds d ⟨ns0, hz, rfl, rfl⟩ De o
  refine sd_seq (sd_asgON (ea_cons (ep_var rfl) ea_nil) ⟨ns0, hz, rfl⟩ (fun m hm => by obtain ⟨ns, rfl⟩ := hm; exact imAll_ints ns) (fun p m hm => sd_go ?_))
  obtain ⟨ns, rfl⟩ := hm
  let s0 : Slot := .val (.lst (ns0.map D.int))
  have hd1 : DS (fun ns => [s0, dr p ns, .no, .no, .no, .no, .no, .no, .no, .no, .no, .no, .no, .no]) 1 p := ⟨fun _ => rfl, fun _ _ => rfl⟩
  refine sd_seq (sd_asgN (S := fun ns => [s0, dr p ns, .no, .no, .no, .no, .no, .no, .no, .no, .no, .no, .no, .no]) (P := Fam4) hd1 (en_drawA hd1 fun d h => h) (fun d ns hdp => sd_go ?_) ns)
  obtain ⟨n, L0, g0, hn, rfl⟩ := hdp
  have n1 := g0.n1
  refine sd_seq (sd_asgC (d := iD n) (ec_ixL (l := [iD n, lsD L0]) (ec_var rfl) rfl) (sd_go ?_))
  refine sd_seq (sd_asgC (d := lsD L0) (ec_ixL (l := [iD n, lsD L0]) (ec_var rfl) rfl) (sd_go ?_))
  let b0 : Slot := .val (famL n L0)
  have hd2 : DS (fun ns => [s0, dr p ns, b0, .val (iD n), .val (lsD L0), .no, .no, .no, .no, .no, .no, .no, .no, .no]) 1 p := ⟨fun _ => rfl, fun _ _ => rfl⟩
  refine sd_seq (sd_ifNJ (α := List (List Nat)) (G := fun L => KM.GF n L) (F := fun L ns => [s0, dr p ns, b0, .val (iD n), .val (lsD L), .no, .no, .no, .no, .no, .no, .no, .no, .no]) (S := fun ns => [s0, dr p ns, b0, .val (iD n), .val (lsD L0), .no, .no, .no, .no, .no, .no, .no, .no, .no]) (ent_pick (b := 2) hd2 (by decide))
    (fun _ go ns => sd_asgL (i := 4) (l := (KM.blocker n L0).map tD) (ef_call (ea_cons (ep_var (i := 3) (d := iD n) rfl) (ea_cons (ep_var (i := 4) (d := lsD L0) rfl) ea_nil)) ⟨n, L0, by omega, (gf_in g0 (by omega)).LL, g0.ne, rfl, rfl⟩) (imAll_tD _) (go (KM.blocker n L0) (by rw [KM.blocker_eq g0.g.asc g0.lt]; exact KM.blocker_gf g0) ns)) (fun _ go ns => go L0 g0 ns) (fun L g ns => sd_go ?_) ns)
  have hd3 : DS (fun ns => [s0, dr p ns, b0, .val (iD n), .val (lsD L), .no, .no, .no, .no, .no, .no, .no, .no, .no]) 1 p := ⟨fun _ => rfl, fun _ _ => rfl⟩
  refine sd_seq (sd_asgN (S := fun ns => [s0, dr p ns, b0, .val (iD n), .val (lsD L), .no, .no, .no, .no, .no, .no, .no, .no, .no]) (P := fun d => ∃ rows : Rws, rows.length = n ∧ (∀ r ∈ rows, KM.GF r.1 r.2) ∧ KM.siz rows ≤ 11 ∧ d = .lst (rows.map famR)) hd3 (en_draw (ok := ok_inner) hd3 (fun _ => eac_cons (ec_im (ep_var (i := 3) (d := iD n) rfl) rfl) eac_nil) ⟨n, n1, hn, rfl⟩ (fun d h => h n rfl) (.inr fun _ => rfl)) (fun d ns hdp => sd_go ?_) ns)
  obtain ⟨rows, hlen, hg, h11, rfl⟩ := hdp
  have hp : KM.Pin n L rows := ⟨g, hlen, hg⟩
  have pk := pin_ok hp (by omega)
  have gP := KM.put_gf hp
  have hi := gf_in g (show n ≤ 14 by omega)
  have r14 : ∀ r ∈ rows, r.1 ≤ 14 := fun r hr => by
    obtain ⟨e, he, rfl⟩ := List.getElem_of_mem hr
    have := KM.stt_end (rows := rows) he
    rw [KM.rw_get he] at this
    omega
  refine sd_seq (sd_asgL (l := (stL rows).map iD) (ef_call (ea_cons (ep_var (i := 5) (d := .lst (rows.map famR)) rfl) ea_nil) ⟨rows, by omega, rfl, rfl⟩) (imAll_nD _) (sd_go ?_))
  refine sd_seq (sd_asg (d := famD C n L) (ep_is (ep_make (ea_cons (ep_var (i := 3) (d := iD n) rfl) (ea_cons (ep_var (i := 4) (d := lsD L) rfl) ea_nil)) ⟨n, L, lsD L, hi, .inr rfl, rfl, rfl, rfl⟩) (by rw [gf_least g]; rfl)) (famD_im C n L) (sd_go ?_))
  refine sd_seq (sd_asgP (l := fms C rows) (ef_lcC (j := 9) famR (fun r => famD C r.1 r.2) (ec_var (i := 5) rfl) (by omega) (fun r hr => ep_is (ep_make (ea_cons (ep_op (ep_var (i := 9) (d := .lst [iD r.1, lsD r.2]) rfl) ep_int (r2_ixL (i := 0) (d := iD r.1) rfl)) (ea_cons (ep_op (ep_var (i := 9) (d := .lst [iD r.1, lsD r.2]) rfl) ep_int (r2_ixL (i := 1) (d := lsD r.2) rfl)) ea_nil)) ⟨r.1, r.2, lsD r.2, gf_in (hg r hr) (r14 r hr), .inr rfl, rfl, rfl, rfl⟩) (by rw [gf_least (hg r hr)]; rfl)) (fun _ _ => famD_im _ _ _)) (fms_im _ _) fun q zm => sd_go ?_)
  -- the families as they are held
  let Zq : Hp → Prop := fun H => (fun _ => True) H ∧ RL K q (fms C rows) H
  have hzq : ∀ H, Zq H → RL K q (fms C rows) H := fun _ h => h.2
  have inn : ∀ {E : List Slot}, E[8]? = some (.val (.adr q)) → EC K [] H Zq (tVar 8) E (.lst (fms C rows)) := fun {E} h => ec_adr h hzq
  let fP : D := famD C (KM.siz rows) (KM.put L rows)
  refine sd_seq (sd_asg (d := fP) (ep_is (ep_callO (ns := ["things", "lots"]) (l := [iD n, tsD L]) (ep_var (i := 7) rfl) (ea_cons (ec_ep (inn rfl)) ea_nil) ⟨n, L, rows, _, pk.call, .inr rfl, rfl, rfl⟩) (pk.putD C)) (famD_im _ _ _) (sd_go ?_))
  refine sd_seq (sd_asgL (l := (KM.put L rows).map tD) (ef_call (ea_cons (ep_var (i := 4) (d := lsD L) rfl) (ea_cons (ep_var (i := 5) (d := .lst (rows.map famR)) rfl) ea_nil)) ⟨n, L, rows, pk, rfl, rfl⟩) (imAll_tD _) (sd_go ?_))
  let S : List Int → List Slot := fun ns => [s0, dr p ns, b0, .val (iD n), .val (lsD L), .val (.lst (rows.map famR)), .val (nD (stL rows)), .val (famD C n L), .val (.adr q), .no, .val fP, .val (lsD (KM.put L rows)), .no, .no]
  have hd4 : DS S 1 p := ⟨fun _ => rfl, fun _ _ => rfl⟩
  refine sd_seq (sd_if (E := S ns) (b := !true || ((KM.siz rows != KM.siz rows) || false)) (et_or (et_not (et_B (ep_isiO (ns := ["things", "lots"]) (l := [iD (KM.siz rows), tsD (KM.put L rows)]) (ep_var (i := 10) rfl) fc.ob))) fun _ => et_or (et_test (ep_op (ep_fld (ep_var (i := 10) (d := famD C (KM.siz rows) (KM.put L rows)) rfl) fc.ob.cl fc.nt rfl) (ep_op (ep_var (i := 6) (d := nD (stL rows)) rfl) (ep_un (x := .int 1) ep_int r1_neg) (r2_ixL (stL_last rows))) r2_neN))
    fun _ => et_test (ep_op (ep_fld (ep_var (i := 10) (d := famD C (KM.siz rows) (KM.put L rows)) rfl) fc.ob.cl fc.nl rfl) (ep_cb (ea_cons (ep_var (i := 11) (d := lsD (KM.put L rows)) rfl) ea_nil) rc_tupleL) (r2_neD (b := false) (lsD_cmp _).2 (lsD_cmp _).2 ⟨fun h => by (cases h), fun h => absurd rfl h⟩))) (fun h => by simp at h) (fun _ => sd_go ?_))
  -- the lots of the families in a list
  have lotsI : ∀ {ns : List Int}, EF K [] H Zq (tLc (iList K (tVar 8)) (gName 9) tYes (tFld K (tVar 9) "lots") [9]) (S ns) (rows.map fun r => tsD r.2) := fun {ns} => ef_lcL1 (j := 9) (c := fun (r : Nat × List (List Nat)) => famD C r.1 r.2) (ts := rows) (fun r => tsD r.2) (ec_ep (inn rfl)) (fun _ _ => famD_im _ _ _) (by omega) (fun r hr => ep_fld (ep_var (i := 9) (d := famD C r.1 r.2) rfl) fc.ob.cl fc.nl rfl) (fun _ _ => tsD_im _)
  have lotsR : ∀ {ns : List Int}, EF K [] H Zq (tLc (iList K (tVar 5)) (gName 9) tYes (tCB (rTupOf K) (tCons (tOp (rIxL K) (tVar 9) (tC (.int 1))) tNil)) [9]) (S ns) (rows.map fun r => tsD r.2) := fun {ns} => ef_lcC (j := 9) famR (fun r => tsD r.2) (ec_var (i := 5) rfl) (by omega) (fun r hr => ep_cb (ea_cons (ep_op (ep_var (i := 9) (d := .lst [iD r.1, lsD r.2]) rfl) ep_int (r2_ixL (i := 1) (d := lsD r.2) rfl)) ea_nil) rc_tupleL) (fun _ _ => tsD_im _)
  refine sd_seq (sd_if (E := S ns) (b := !(KM.siz rows == KM.siz rows && decide (KM.put L rows = KM.put L rows)) || false) (et_or (et_not (et_test (ep_op (x := fP) (y := fP) (ep_is (ep_callE (d := putD C L rows) (ea_cons (ep_var (i := 7) (d := famD C n L) rfl) (ea_cons (ep_cb (ea_cons (ec_ep (inn rfl)) ea_nil) rc_tupleL) ea_nil)) ⟨n, L, rows, _, pk.call, .inl rfl, rfl, rfl⟩) (pk.putD C)) (ep_var (i := 10) rfl) (r2_eqO ⟨_, _, _, _, rfl, rfl⟩)))) fun _ => et_test (ep_op (EF.p lotsI) (EF.p lotsR) (r2_neD (b := false) (ts_cmp rows) (ts_cmp rows) ⟨fun h => by (cases h), fun h => absurd rfl h⟩))) (fun h => by simp at h) (fun _ => sd_go ?_))
  refine sd_seq (sd_ifN (S := S) (P := fun b => b = false) (ent_notB (en_draw (ok := ok_lheld C) (pre := p_true) hd4 (fun _ => eac_cons (ec_var (i := 10) (d := fP) rfl) (eac_cons (ec_var (i := 4) (d := lsD L) rfl) (eac_cons (ec_var (i := 5) (d := .lst (rows.map famR)) rfl) eac_nil))) ⟨n, L, rows, hp, by omega, rfl⟩ (fun d h => h) (.inl fun d h => by cases h; rfl))) (fun h => by cases h) (fun _ ns => sd_go ?_) ns)
  -- blockers
  have pb := hp.blk
  have sb := KM.siz_blk rows
  have pbk := pin_ok pb (by omega)
  refine sd_seq (sd_if (E := S ns) (b := !(KM.siz rows == KM.siz rows && decide (KM.blockerLots (KM.put L rows) = KM.blockerLots (KM.put L rows)))) (et_not (et_test (ep_op (x := famD C (KM.siz rows) (KM.blockerLots (KM.put L rows))) (y := famD C (KM.siz rows) (KM.blockerLots (KM.put L rows))) (ep_is (ep_un (ep_var (i := 10) (d := fP) rfl) (r1_inv ⟨KM.siz rows, KM.put L rows, gf_inv gP (by omega), rfl, rfl⟩)) (by rw [gf_least (KM.blocker_gf gP)]))
    (ep_is (ep_callO (ns := ["things", "lots"]) (l := [iD n, tsD (KM.blockerLots L)]) (ep_is (ep_un (ep_var (i := 7) (d := famD C n L) rfl) (r1_inv ⟨n, L, gf_inv g (by omega), rfl, rfl⟩)) (by rw [gf_least (KM.blocker_gf g)]; rfl)) (ea_cons (EF.p (ef_is (ef_lcL1 (j := 9) (c := fun (r : Nat × List (List Nat)) => famD C r.1 r.2) (ts := rows) (fun r => famD C r.1 (KM.blockerLots r.2)) (ec_ep (inn rfl)) (fun _ _ => famD_im _ _ _) (by omega) (fun r hr => ep_is (ep_un (ep_var (i := 9) (d := famD C r.1 r.2) rfl) (r1_inv ⟨r.1, r.2, gf_inv (hg r hr) (r14 r hr), rfl, rfl⟩)) (by rw [gf_least (KM.blocker_gf (hg r hr))])) (fun _ _ => famD_im _ _ _)) (fms_blk (C := C) rows).symm)) ea_nil) ⟨n, KM.blockerLots L, KM.blkR rows, _, pbk.call, .inr rfl, rfl, rfl⟩) (by rw [pbk.putD, sb, KM.put_blk hp]))
    (r2_eqO ⟨_, _, _, _, rfl, rfl⟩)))) (fun h => by simp at h) (fun _ => sd_go ?_))
  -- thing by thing
  refine sd_seq (sd_forRW (n := (n : Int)) (fun _ E => ∃ ns, E = S ns) (ea_cons (ep_var (i := 3) (d := iD n) rfl) ea_nil) (by omega) ⟨ns, rfl⟩ ?_ ?_)
  · rintro i E hi' ⟨ns, rfl⟩
    have he : i < rows.length := by omega
    let S1 : List Int → List Slot := fun ns => [s0, dr p ns, b0, .val (iD n), .val (lsD L), .val (.lst (rows.map famR)), .val (nD (stL rows)), .val (famD C n L), .val (.adr q), .no, .val fP, .val (lsD (KM.put L rows)), .val (iD i), .no]
    have hd5 : DS S1 1 p := ⟨fun _ => rfl, fun _ _ => rfl⟩
    have ge := hp.gf he
    refine sd_seq (sd_asgN (S := S1) hd5 (en_pick (b := (KM.rw_ rows i).1) hd5 (fun _ => ec_ixL (k := 0) (l := [iD (KM.rw_ rows i).1, lsD (KM.rw_ rows i).2]) (ec_ixV (k := (i : Int)) (l := rows.map famR) (ec_var (i := 5) rfl) (ep_var (i := 12) (d := iD i) rfl) (atI_nat (rows_at he))) rfl) ge.n1) (fun d ns hdp => sd_go ?_) ns)
    obtain ⟨a, ha, rfl⟩ := hdp
    have eSt : ∀ {E : List Slot}, E[6]? = some (.val (nD (stL rows))) → E[12]? = some (.val (iD i)) → EP K [] H Zq (tOp (rIxL K) (tVar 6) (tVar 12)) E (iD (KM.stt rows i)) := fun {E} h1 h2 => ep_op (ep_var h1) (ep_var h2) (r2_ixL (atI_nat (stL_at he)))
    let E2 : List Slot := [s0, dr p ns, b0, .val (iD n), .val (lsD L), .val (.lst (rows.map famR)), .val (nD (stL rows)), .val (famD C n L), .val (.adr q), .no, .val fP, .val (lsD (KM.put L rows)), .val (iD i), .val (iD a)]
    refine sd_seq (sd_if (E := E2) (b := (KM.stt rows i + a != KM.stt rows i + a) || !true) (et_or (et_test (ep_op (ep_callE (d := iD (KM.stt rows i + a)) (ea_cons (ec_ep (inn rfl)) (ea_cons (ep_var (i := 12) (d := iD i) rfl) (ea_cons (ep_var (i := 13) (d := iD a) rfl) ea_nil))) ⟨rows, _, i, a, by omega, .inr rfl, he, ha, rfl, rfl⟩) (ep_is (ep_op (eSt rfl rfl) (ep_var (i := 13) (d := iD a) rfl) r2_int) (by unfold iD; rw [Int.natCast_add])) r2_neN)) fun _ => et_not (et_B (ep_call (ea_cons (ep_callE (d := iD (KM.stt rows i + 0)) (ea_cons (ec_ep (inn rfl)) (ea_cons (ep_var (i := 12) (d := iD i) rfl) (ea_cons ep_n0 ea_nil))) ⟨rows, _, i, 0, by omega, .inr rfl, he, ge.n1, rfl, rfl⟩) ea_nil) ⟨_, rfl, rfl⟩))) (fun h => by simp at h) (fun _ => sd_go ?_))
    refine sd_if (E := E2) (b := !true) (et_not (et_B (ep_call (ea_cons (ep_var (i := 10) (d := fP) rfl) (ea_cons (ep_var (i := 7) (d := famD C n L) rfl) (ea_cons (ec_ep (inn rfl)) (ea_cons (ep_var (i := 12) (d := iD i) rfl) (ea_cons (ep_var (i := 13) (d := iD a) rfl) (ea_cons (eSt rfl rfl) ea_nil)))))) ⟨n, i, a, L, rows, hp, by omega, he, ha, rfl, rfl⟩))) (fun h => by cases h) (fun _ => sd_lw ⟨ns, rfl⟩ (.eq (.eq (.eq (.eq (.eq (.eq (.eq (.eq (.eq (.eq (.eq (.eq (.no (.no .nil)))))))))))))))
  · rintro E ⟨ns, rfl⟩
    refine sd_go (sd_seq (sd_ifN (S := S) (P := fun b => b = false) (ent_or (P1 := fun b => b = false) (P2 := fun b => b = false) (ent_notB (en_draw (ok := ok_twice C) (pre := p_true) hd4 (fun _ => eac_cons (ec_var (i := 7) (d := famD C n L) rfl) (eac_cons (inn rfl) (eac_cons (ec_var (i := 10) (d := fP) rfl) eac_nil))) ⟨n, L, rows, hp, h11, rfl⟩ (fun d h => h) (.inl fun d h => by cases h; rfl)))
      (ent_notB (en_drawZ (ok := ok_lref K C) (pre := p_true) (Zp := RL K q (fms C rows)) hd4 (fun _ => eac_cons (ec_var (i := 7) (d := famD C n L) rfl) (eac_cons (ec_var (i := 8) (d := .adr q) rfl) eac_nil)) ⟨n, L, rows, q, hp, h11, rfl, fun _ h => h⟩ hzq (fun H H' x h => let ⟨vs, a, b⟩ := h; ⟨vs, x _ _ a, b.mono x⟩) (fun d h => h) (fun d h => by cases h; rfl))) ⟨fun h => (by cases h), fun b _ h => h⟩) (fun h => by cases h) (fun _ ns => sd_go ?_) ns))
    refine sd_ret (E := S ns) (ep_is (ep_andV (b := true) (c := true) (ep_op (ep_fld (ep_var (i := 7) (d := famD C n L) rfl) fc.ob.cl fc.nl rfl) (ep_cb (ea_cons (ep_var (i := 4) (d := lsD L) rfl) ea_nil) rc_tupleL) (r2_eqD (b := true) (lsD_cmp _).2 (lsD_cmp _).2 ⟨fun _ => rfl, fun _ => rfl⟩)) fun _ => ep_op (EF.p lotsI) (EF.p lotsR) (r2_eqD (b := true) (ts_cmp rows) (ts_cmp rows) ⟨fun _ => rfl, fun _ => rfl⟩)) rfl) o.rt
end
end Y
set_option Elab.async false
set_option linter.all false
set_option autoImplicit false
set_option maxRecDepth 100000
set_option maxHeartbeats 4000000
namespace Y
open PySem L2
theorem all_mk {P : Program} {w : World} {K : PySem.W.Frag} {h : Heap} {mg : Str → Option Value} {fa C CTb CB fB CN fN CF fF CZ fZ CT fT CL fL f_mask_of f_things_of f_least_masks f_lots_of_masks f_least_lots f_blocker_lots f_law_inside f_law_common f_law_subsets f_law_least f_law_meets f_law_blocker f_law_sized f_law_fan f_is_integer f_ask_size f_is_thing f_set_of f_ask_things f_checked_lot f_Minit f_Meq f_Minvert f_Mholds f_law_pick f_law_chosen f_law_mixed_lots f_law_draws f_lots_put f_family_list f_starts_of f_ask_thing f_lots_without f_lots_held f_Msingle f_Msub f_Mfloordiv f_families_for f_Mcall f_put_in f_place_of f_law_holds f_law_small f_law_starts f_law_put_lots f_law_share_holds f_law_held_sets f_law_step f_law_put_word f_law_place_word f_law_one_less f_law_inner f_law_twice f_law_refusals f_law_int f_law : Addr} (X : K.In h) (G : h.Ns mainGlobals mg) (hfa : mg "law" = some (.ref fa)) {tM : Tok}
    {od_mask_of an_mask_of od_things_of an_things_of od_least_masks an_least_masks od_lots_of_masks an_lots_of_masks od_least_lots an_least_lots od_blocker_lots an_blocker_lots od_law_inside an_law_inside od_law_common an_law_common od_law_subsets an_law_subsets od_law_least an_law_least od_law_meets an_law_meets od_law_blocker an_law_blocker od_law_sized an_law_sized od_law_fan an_law_fan od_is_integer an_is_integer od_ask_size an_ask_size od_is_thing an_is_thing od_set_of an_set_of od_ask_things an_ask_things od_checked_lot an_checked_lot od_Minit an_Minit od_Meq an_Meq od_Minvert an_Minvert od_Mholds an_Mholds od_law_pick an_law_pick od_law_chosen an_law_chosen od_law_mixed_lots an_law_mixed_lots od_law_draws an_law_draws od_lots_put an_lots_put od_family_list an_family_list od_starts_of an_starts_of od_ask_thing an_ask_thing od_lots_without an_lots_without od_lots_held an_lots_held od_Msingle an_Msingle od_Msub an_Msub od_Mfloordiv an_Mfloordiv od_families_for an_families_for od_Mcall an_Mcall od_put_in an_put_in od_place_of an_place_of od_law_holds an_law_holds od_law_small an_law_small od_law_starts an_law_starts od_law_put_lots an_law_put_lots od_law_share_holds an_law_share_holds od_law_held_sets an_law_held_sets od_law_step an_law_step od_law_put_word an_law_put_word od_law_place_word an_law_place_word od_law_one_less an_law_one_less od_law_inner an_law_inner od_law_twice an_law_twice od_law_refusals an_law_refusals od_law_int an_law_int od_law an_law : Option Addr} {sl_mask_of sl_things_of sl_least_masks sl_lots_of_masks sl_least_lots sl_blocker_lots sl_law_inside sl_law_common sl_law_subsets sl_law_least sl_law_meets sl_law_blocker sl_law_sized sl_law_fan sl_is_integer sl_ask_size sl_is_thing sl_set_of sl_ask_things sl_checked_lot sl_Minit sl_Meq sl_Minvert sl_Mholds sl_law_pick sl_law_chosen sl_law_mixed_lots sl_law_draws sl_lots_put sl_family_list sl_starts_of sl_ask_thing sl_lots_without sl_lots_held sl_Msingle sl_Msub sl_Mfloordiv sl_families_for sl_Mcall sl_put_in sl_place_of sl_law_holds sl_law_small sl_law_starts sl_law_put_lots sl_law_share_holds sl_law_held_sets sl_law_step sl_law_put_word sl_law_place_word sl_law_one_less sl_law_inner sl_law_twice sl_law_refusals sl_law_int sl_law : Array (Option Value)} {oc_mask_of kV_mask_of dc_mask_of pm_mask_of cd_mask_of ct_mask_of oc_things_of kV_things_of dc_things_of pm_things_of cd_things_of ct_things_of oc_least_masks kV_least_masks dc_least_masks pm_least_masks cd_least_masks ct_least_masks oc_lots_of_masks kV_lots_of_masks dc_lots_of_masks pm_lots_of_masks cd_lots_of_masks ct_lots_of_masks oc_least_lots kV_least_lots dc_least_lots pm_least_lots cd_least_lots ct_least_lots oc_blocker_lots kV_blocker_lots dc_blocker_lots pm_blocker_lots cd_blocker_lots ct_blocker_lots oc_law_inside kV_law_inside dc_law_inside pm_law_inside cd_law_inside ct_law_inside oc_law_common kV_law_common dc_law_common pm_law_common cd_law_common ct_law_common oc_law_subsets kV_law_subsets dc_law_subsets pm_law_subsets cd_law_subsets ct_law_subsets oc_law_least kV_law_least dc_law_least pm_law_least cd_law_least ct_law_least oc_law_meets kV_law_meets dc_law_meets pm_law_meets cd_law_meets ct_law_meets oc_law_blocker kV_law_blocker dc_law_blocker pm_law_blocker cd_law_blocker ct_law_blocker oc_law_sized kV_law_sized dc_law_sized pm_law_sized cd_law_sized ct_law_sized oc_law_fan kV_law_fan dc_law_fan pm_law_fan cd_law_fan ct_law_fan oc_is_integer kV_is_integer dc_is_integer pm_is_integer cd_is_integer ct_is_integer oc_ask_size kV_ask_size dc_ask_size pm_ask_size cd_ask_size ct_ask_size oc_is_thing kV_is_thing dc_is_thing pm_is_thing cd_is_thing ct_is_thing oc_set_of kV_set_of dc_set_of pm_set_of cd_set_of ct_set_of oc_ask_things kV_ask_things dc_ask_things pm_ask_things cd_ask_things ct_ask_things oc_checked_lot kV_checked_lot dc_checked_lot pm_checked_lot cd_checked_lot ct_checked_lot oc_Minit kV_Minit dc_Minit pm_Minit cd_Minit ct_Minit oc_Meq kV_Meq dc_Meq pm_Meq cd_Meq ct_Meq oc_Minvert kV_Minvert dc_Minvert pm_Minvert cd_Minvert ct_Minvert oc_Mholds kV_Mholds dc_Mholds pm_Mholds cd_Mholds ct_Mholds oc_law_pick kV_law_pick dc_law_pick pm_law_pick cd_law_pick ct_law_pick oc_law_chosen kV_law_chosen dc_law_chosen pm_law_chosen cd_law_chosen ct_law_chosen oc_law_mixed_lots kV_law_mixed_lots dc_law_mixed_lots pm_law_mixed_lots cd_law_mixed_lots ct_law_mixed_lots oc_law_draws kV_law_draws dc_law_draws pm_law_draws cd_law_draws ct_law_draws oc_lots_put kV_lots_put dc_lots_put pm_lots_put cd_lots_put ct_lots_put oc_family_list kV_family_list dc_family_list pm_family_list cd_family_list ct_family_list oc_starts_of kV_starts_of dc_starts_of pm_starts_of cd_starts_of ct_starts_of oc_ask_thing kV_ask_thing dc_ask_thing pm_ask_thing cd_ask_thing ct_ask_thing oc_lots_without kV_lots_without dc_lots_without pm_lots_without cd_lots_without ct_lots_without oc_lots_held kV_lots_held dc_lots_held pm_lots_held cd_lots_held ct_lots_held oc_Msingle kV_Msingle dc_Msingle pm_Msingle cd_Msingle ct_Msingle oc_Msub kV_Msub dc_Msub pm_Msub cd_Msub ct_Msub oc_Mfloordiv kV_Mfloordiv dc_Mfloordiv pm_Mfloordiv cd_Mfloordiv ct_Mfloordiv oc_families_for kV_families_for dc_families_for pm_families_for cd_families_for ct_families_for oc_Mcall kV_Mcall dc_Mcall pm_Mcall cd_Mcall ct_Mcall oc_put_in kV_put_in dc_put_in pm_put_in cd_put_in ct_put_in oc_place_of kV_place_of dc_place_of pm_place_of cd_place_of ct_place_of oc_law_holds kV_law_holds dc_law_holds pm_law_holds cd_law_holds ct_law_holds oc_law_small kV_law_small dc_law_small pm_law_small cd_law_small ct_law_small oc_law_starts kV_law_starts dc_law_starts pm_law_starts cd_law_starts ct_law_starts oc_law_put_lots kV_law_put_lots dc_law_put_lots pm_law_put_lots cd_law_put_lots ct_law_put_lots oc_law_share_holds kV_law_share_holds dc_law_share_holds pm_law_share_holds cd_law_share_holds ct_law_share_holds oc_law_held_sets kV_law_held_sets dc_law_held_sets pm_law_held_sets cd_law_held_sets ct_law_held_sets oc_law_step kV_law_step dc_law_step pm_law_step cd_law_step ct_law_step oc_law_put_word kV_law_put_word dc_law_put_word pm_law_put_word cd_law_put_word ct_law_put_word oc_law_place_word kV_law_place_word dc_law_place_word pm_law_place_word cd_law_place_word ct_law_place_word oc_law_one_less kV_law_one_less dc_law_one_less pm_law_one_less cd_law_one_less ct_law_one_less oc_law_inner kV_law_inner dc_law_inner pm_law_inner cd_law_inner ct_law_inner oc_law_twice kV_law_twice dc_law_twice pm_law_twice cd_law_twice ct_law_twice oc_law_refusals kV_law_refusals dc_law_refusals pm_law_refusals cd_law_refusals ct_law_refusals oc_law_int kV_law_int dc_law_int pm_law_int cd_law_int ct_law_int oc_law kV_law dc_law pm_law cd_law ct_law : Value}
    {ocB dVB kVB docB pmB ctB cclB clB : Value} {odB anB cddB cldB : Option Addr} {cdaB ccB : Addr} {slB ccsB cslB : Array (Option Value)} {vsB : Array Value} {fileB : Str} {tfB : Tok} {parB : Arguments} {arB : Arg} {jB : Nat} {pB0 pB1 pB2 pB3 pB4 pB5 pB6 pB7 pB8 pB9 pB10 pB11 pB12 : Pos} {ocN dVN kVN docN pmN ctN cclN clN : Value} {odN anN cddN cldN : Option Addr} {cdaN ccN : Addr} {slN ccsN cslN : Array (Option Value)} {vsN : Array Value} {fileN : Str} {tfN : Tok} {parN : Arguments} {arN : Arg} {jN : Nat} {pN0 pN1 pN2 pN3 pN4 pN5 pN6 pN7 pN8 pN9 pN10 pN11 pN12 : Pos} {ocF dVF kVF docF pmF ctF cclF clF : Value} {odF anF cddF cldF : Option Addr} {cdaF ccF : Addr} {slF ccsF cslF : Array (Option Value)} {vsF : Array Value} {fileF : Str} {tfF : Tok} {parF : Arguments} {arF : Arg} {jF : Nat} {pF0 pF1 pF2 pF3 pF4 pF5 pF6 pF7 pF8 pF9 pF10 pF11 pF12 : Pos} {ocZ dVZ kVZ docZ pmZ ctZ cclZ clZ : Value} {odZ anZ cddZ cldZ : Option Addr} {cdaZ ccZ : Addr} {slZ ccsZ cslZ : Array (Option Value)} {vsZ : Array Value} {fileZ : Str} {tfZ : Tok} {parZ : Arguments} {arZ : Arg} {jZ : Nat} {pZ0 pZ1 pZ2 pZ3 pZ4 pZ5 pZ6 pZ7 pZ8 pZ9 pZ10 pZ11 pZ12 : Pos} {ocT dVT kVT docT pmT ctT cclT clT : Value} {odT anT cddT cldT : Option Addr} {cdaT ccT : Addr} {slT ccsT cslT : Array (Option Value)} {vsT : Array Value} {fileT : Str} {tfT : Tok} {parT : Arguments} {arT : Arg} {jT : Nat} {pT0 pT1 pT2 pT3 pT7 pT8 pT9 pT10 pT11 pT12 : Pos} {ocL dVL kVL docL pmL ctL cclL clL : Value} {odL anL cddL cldL : Option Addr} {cdaL ccL : Addr} {slL ccsL cslL : Array (Option Value)} {vsL : Array Value} {fileL : Str} {tfL : Tok} {parL : Arguments} {arL : Arg} {jL j2L : Nat} {pL0 pL1 pL2 pL3 pL4 pL5 pL6 pL7 pL8 pL9 pL10 pL11 pL12 pL13 pL14 pL15 pL16 pL17 pL18 pL19 : Pos}
    {p_Msingle : Addr} {r_Msingle : List Value}
    {fo_Msub ro_Msub : Option Value}
    {fo_Mfloordiv ro_Mfloordiv : Option Value}
    (aC : PySem.W.nsIn K mainGlobals "Family" = some (some (.ref C)))
    (aT : PySem.W.nsIn K mainGlobals "Trouble" = some (some (.ref CTb)))
    (aM : PySem.W.nsIn K mainGlobals "MOST_THINGS" = some (some (.int 60 tM)))
    (aBx : PySem.W.nsIn K mainGlobals "BadSet" = some (some (.ref CB)))
    (aNx : PySem.W.nsIn K mainGlobals "BadNumber" = some (some (.ref CN)))
    (aFx : PySem.W.nsIn K mainGlobals "BadFamily" = some (some (.ref CF)))
    (aZx : PySem.W.nsIn K mainGlobals "OtherSize" = some (some (.ref CZ)))
    (aTx : PySem.W.nsIn K mainGlobals "BadThing" = some (some (.ref CT)))
    (aLx : PySem.W.nsIn K mainGlobals "Lost" = some (some (.ref CL)))
    (a_mask_of : PySem.W.nsIn K mainGlobals "mask_of" = some (some (.ref f_mask_of)))
    (l_mask_of : K.lookup f_mask_of = some ⟨oc_mask_of, od_mask_of, .func (PySem.W.fnOf "mask_of" "mask_of" (defArgs s_mask_of) (defBody s_mask_of) (defScope s_mask_of) .none kV_mask_of dc_mask_of pm_mask_of an_mask_of cd_mask_of ct_mask_of), sl_mask_of⟩)
    (c_mask_of : PySem.W.codeIn K cd_mask_of "mask_of" = true)
    (k_mask_of : PySem.W.keepIn K (.ref f_mask_of) = true)
    (a_things_of : PySem.W.nsIn K mainGlobals "things_of" = some (some (.ref f_things_of)))
    (l_things_of : K.lookup f_things_of = some ⟨oc_things_of, od_things_of, .func (PySem.W.fnOf "things_of" "things_of" (defArgs s_things_of) (defBody s_things_of) (defScope s_things_of) .none kV_things_of dc_things_of pm_things_of an_things_of cd_things_of ct_things_of), sl_things_of⟩)
    (c_things_of : PySem.W.codeIn K cd_things_of "things_of" = true)
    (k_things_of : PySem.W.keepIn K (.ref f_things_of) = true)
    (a_least_masks : PySem.W.nsIn K mainGlobals "least_masks" = some (some (.ref f_least_masks)))
    (l_least_masks : K.lookup f_least_masks = some ⟨oc_least_masks, od_least_masks, .func (PySem.W.fnOf "least_masks" "least_masks" (defArgs s_least_masks) (defBody s_least_masks) (defScope s_least_masks) .none kV_least_masks dc_least_masks pm_least_masks an_least_masks cd_least_masks ct_least_masks), sl_least_masks⟩)
    (c_least_masks : PySem.W.codeIn K cd_least_masks "least_masks" = true)
    (k_least_masks : PySem.W.keepIn K (.ref f_least_masks) = true)
    (a_lots_of_masks : PySem.W.nsIn K mainGlobals "lots_of_masks" = some (some (.ref f_lots_of_masks)))
    (l_lots_of_masks : K.lookup f_lots_of_masks = some ⟨oc_lots_of_masks, od_lots_of_masks, .func (PySem.W.fnOf "lots_of_masks" "lots_of_masks" (defArgs s_lots_of_masks) (defBody s_lots_of_masks) (defScope s_lots_of_masks) .none kV_lots_of_masks dc_lots_of_masks pm_lots_of_masks an_lots_of_masks cd_lots_of_masks ct_lots_of_masks), sl_lots_of_masks⟩)
    (c_lots_of_masks : PySem.W.codeIn K cd_lots_of_masks "lots_of_masks" = true)
    (k_lots_of_masks : PySem.W.keepIn K (.ref f_lots_of_masks) = true)
    (a_least_lots : PySem.W.nsIn K mainGlobals "least_lots" = some (some (.ref f_least_lots)))
    (l_least_lots : K.lookup f_least_lots = some ⟨oc_least_lots, od_least_lots, .func (PySem.W.fnOf "least_lots" "least_lots" (defArgs s_least_lots) (defBody s_least_lots) (defScope s_least_lots) .none kV_least_lots dc_least_lots pm_least_lots an_least_lots cd_least_lots ct_least_lots), sl_least_lots⟩)
    (c_least_lots : PySem.W.codeIn K cd_least_lots "least_lots" = true)
    (k_least_lots : PySem.W.keepIn K (.ref f_least_lots) = true)
    (a_blocker_lots : PySem.W.nsIn K mainGlobals "blocker_lots" = some (some (.ref f_blocker_lots)))
    (l_blocker_lots : K.lookup f_blocker_lots = some ⟨oc_blocker_lots, od_blocker_lots, .func (PySem.W.fnOf "blocker_lots" "blocker_lots" (defArgs s_blocker_lots) (defBody s_blocker_lots) (defScope s_blocker_lots) .none kV_blocker_lots dc_blocker_lots pm_blocker_lots an_blocker_lots cd_blocker_lots ct_blocker_lots), sl_blocker_lots⟩)
    (c_blocker_lots : PySem.W.codeIn K cd_blocker_lots "blocker_lots" = true)
    (k_blocker_lots : PySem.W.keepIn K (.ref f_blocker_lots) = true)
    (a_law_inside : PySem.W.nsIn K mainGlobals "_law_inside" = some (some (.ref f_law_inside)))
    (l_law_inside : K.lookup f_law_inside = some ⟨oc_law_inside, od_law_inside, .func (PySem.W.fnOf "_law_inside" "_law_inside" (defArgs s_law_inside) (defBody s_law_inside) (defScope s_law_inside) .none kV_law_inside dc_law_inside pm_law_inside an_law_inside cd_law_inside ct_law_inside), sl_law_inside⟩)
    (c_law_inside : PySem.W.codeIn K cd_law_inside "_law_inside" = true)
    (k_law_inside : PySem.W.keepIn K (.ref f_law_inside) = true)
    (a_law_common : PySem.W.nsIn K mainGlobals "_law_common" = some (some (.ref f_law_common)))
    (l_law_common : K.lookup f_law_common = some ⟨oc_law_common, od_law_common, .func (PySem.W.fnOf "_law_common" "_law_common" (defArgs s_law_common) (defBody s_law_common) (defScope s_law_common) .none kV_law_common dc_law_common pm_law_common an_law_common cd_law_common ct_law_common), sl_law_common⟩)
    (c_law_common : PySem.W.codeIn K cd_law_common "_law_common" = true)
    (k_law_common : PySem.W.keepIn K (.ref f_law_common) = true)
    (a_law_subsets : PySem.W.nsIn K mainGlobals "_law_subsets" = some (some (.ref f_law_subsets)))
    (l_law_subsets : K.lookup f_law_subsets = some ⟨oc_law_subsets, od_law_subsets, .func (PySem.W.fnOf "_law_subsets" "_law_subsets" (defArgs s_law_subsets) (defBody s_law_subsets) (defScope s_law_subsets) .none kV_law_subsets dc_law_subsets pm_law_subsets an_law_subsets cd_law_subsets ct_law_subsets), sl_law_subsets⟩)
    (c_law_subsets : PySem.W.codeIn K cd_law_subsets "_law_subsets" = true)
    (k_law_subsets : PySem.W.keepIn K (.ref f_law_subsets) = true)
    (a_law_least : PySem.W.nsIn K mainGlobals "_law_least" = some (some (.ref f_law_least)))
    (l_law_least : K.lookup f_law_least = some ⟨oc_law_least, od_law_least, .func (PySem.W.fnOf "_law_least" "_law_least" (defArgs s_law_least) (defBody s_law_least) (defScope s_law_least) .none kV_law_least dc_law_least pm_law_least an_law_least cd_law_least ct_law_least), sl_law_least⟩)
    (c_law_least : PySem.W.codeIn K cd_law_least "_law_least" = true)
    (k_law_least : PySem.W.keepIn K (.ref f_law_least) = true)
    (a_law_meets : PySem.W.nsIn K mainGlobals "_law_meets" = some (some (.ref f_law_meets)))
    (l_law_meets : K.lookup f_law_meets = some ⟨oc_law_meets, od_law_meets, .func (PySem.W.fnOf "_law_meets" "_law_meets" (defArgs s_law_meets) (defBody s_law_meets) (defScope s_law_meets) .none kV_law_meets dc_law_meets pm_law_meets an_law_meets cd_law_meets ct_law_meets), sl_law_meets⟩)
    (c_law_meets : PySem.W.codeIn K cd_law_meets "_law_meets" = true)
    (k_law_meets : PySem.W.keepIn K (.ref f_law_meets) = true)
    (a_law_blocker : PySem.W.nsIn K mainGlobals "_law_blocker" = some (some (.ref f_law_blocker)))
    (l_law_blocker : K.lookup f_law_blocker = some ⟨oc_law_blocker, od_law_blocker, .func (PySem.W.fnOf "_law_blocker" "_law_blocker" (defArgs s_law_blocker) (defBody s_law_blocker) (defScope s_law_blocker) .none kV_law_blocker dc_law_blocker pm_law_blocker an_law_blocker cd_law_blocker ct_law_blocker), sl_law_blocker⟩)
    (c_law_blocker : PySem.W.codeIn K cd_law_blocker "_law_blocker" = true)
    (k_law_blocker : PySem.W.keepIn K (.ref f_law_blocker) = true)
    (a_law_sized : PySem.W.nsIn K mainGlobals "_law_sized" = some (some (.ref f_law_sized)))
    (l_law_sized : K.lookup f_law_sized = some ⟨oc_law_sized, od_law_sized, .func (PySem.W.fnOf "_law_sized" "_law_sized" (defArgs s_law_sized) (defBody s_law_sized) (defScope s_law_sized) .none kV_law_sized dc_law_sized pm_law_sized an_law_sized cd_law_sized ct_law_sized), sl_law_sized⟩)
    (c_law_sized : PySem.W.codeIn K cd_law_sized "_law_sized" = true)
    (k_law_sized : PySem.W.keepIn K (.ref f_law_sized) = true)
    (a_law_fan : PySem.W.nsIn K mainGlobals "_law_fan" = some (some (.ref f_law_fan)))
    (l_law_fan : K.lookup f_law_fan = some ⟨oc_law_fan, od_law_fan, .func (PySem.W.fnOf "_law_fan" "_law_fan" (defArgs s_law_fan) (defBody s_law_fan) (defScope s_law_fan) .none kV_law_fan dc_law_fan pm_law_fan an_law_fan cd_law_fan ct_law_fan), sl_law_fan⟩)
    (c_law_fan : PySem.W.codeIn K cd_law_fan "_law_fan" = true)
    (k_law_fan : PySem.W.keepIn K (.ref f_law_fan) = true)
    (a_is_integer : PySem.W.nsIn K mainGlobals "is_integer" = some (some (.ref f_is_integer)))
    (l_is_integer : K.lookup f_is_integer = some ⟨oc_is_integer, od_is_integer, .func (PySem.W.fnOf "is_integer" "is_integer" (defArgs s_is_integer) (defBody s_is_integer) (defScope s_is_integer) .none kV_is_integer dc_is_integer pm_is_integer an_is_integer cd_is_integer ct_is_integer), sl_is_integer⟩)
    (c_is_integer : PySem.W.codeIn K cd_is_integer "is_integer" = true)
    (k_is_integer : PySem.W.keepIn K (.ref f_is_integer) = true)
    (a_ask_size : PySem.W.nsIn K mainGlobals "ask_size" = some (some (.ref f_ask_size)))
    (l_ask_size : K.lookup f_ask_size = some ⟨oc_ask_size, od_ask_size, .func (PySem.W.fnOf "ask_size" "ask_size" (defArgs s_ask_size) (defBody s_ask_size) (defScope s_ask_size) .none kV_ask_size dc_ask_size pm_ask_size an_ask_size cd_ask_size ct_ask_size), sl_ask_size⟩)
    (c_ask_size : PySem.W.codeIn K cd_ask_size "ask_size" = true)
    (k_ask_size : PySem.W.keepIn K (.ref f_ask_size) = true)
    (a_is_thing : PySem.W.nsIn K mainGlobals "is_thing" = some (some (.ref f_is_thing)))
    (l_is_thing : K.lookup f_is_thing = some ⟨oc_is_thing, od_is_thing, .func (PySem.W.fnOf "is_thing" "is_thing" (defArgs s_is_thing) (defBody s_is_thing) (defScope s_is_thing) .none kV_is_thing dc_is_thing pm_is_thing an_is_thing cd_is_thing ct_is_thing), sl_is_thing⟩)
    (c_is_thing : PySem.W.codeIn K cd_is_thing "is_thing" = true)
    (k_is_thing : PySem.W.keepIn K (.ref f_is_thing) = true)
    (a_set_of : PySem.W.nsIn K mainGlobals "set_of" = some (some (.ref f_set_of)))
    (l_set_of : K.lookup f_set_of = some ⟨oc_set_of, od_set_of, .func (PySem.W.fnOf "set_of" "set_of" (defArgs s_set_of) (defBody s_set_of) (defScope s_set_of) .none kV_set_of dc_set_of pm_set_of an_set_of cd_set_of ct_set_of), sl_set_of⟩)
    (c_set_of : PySem.W.codeIn K cd_set_of "set_of" = true)
    (k_set_of : PySem.W.keepIn K (.ref f_set_of) = true)
    (a_ask_things : PySem.W.nsIn K mainGlobals "ask_things" = some (some (.ref f_ask_things)))
    (l_ask_things : K.lookup f_ask_things = some ⟨oc_ask_things, od_ask_things, .func (PySem.W.fnOf "ask_things" "ask_things" (defArgs s_ask_things) (defBody s_ask_things) (defScope s_ask_things) .none kV_ask_things dc_ask_things pm_ask_things an_ask_things cd_ask_things ct_ask_things), sl_ask_things⟩)
    (c_ask_things : PySem.W.codeIn K cd_ask_things "ask_things" = true)
    (k_ask_things : PySem.W.keepIn K (.ref f_ask_things) = true)
    (a_checked_lot : PySem.W.nsIn K mainGlobals "checked_lot" = some (some (.ref f_checked_lot)))
    (l_checked_lot : K.lookup f_checked_lot = some ⟨oc_checked_lot, od_checked_lot, .func (PySem.W.fnOf "checked_lot" "checked_lot" (defArgs s_checked_lot) (defBody s_checked_lot) (defScope s_checked_lot) .none kV_checked_lot dc_checked_lot pm_checked_lot an_checked_lot cd_checked_lot ct_checked_lot), sl_checked_lot⟩)
    (c_checked_lot : PySem.W.codeIn K cd_checked_lot "checked_lot" = true)
    (k_checked_lot : PySem.W.keepIn K (.ref f_checked_lot) = true)
    (a_Minit : PySem.W.findIn K (.ref C) "__init__" = some (some (.ref f_Minit)))
    (i_Minit : PySem.W.isFn K (.ref f_Minit) = true)
    (l_Minit : K.lookup f_Minit = some ⟨oc_Minit, od_Minit, .func (PySem.W.fnOf "__init__" "Family.__init__" (defArgs s_Family_init) (defBody s_Family_init) (defScope s_Family_init) .none kV_Minit dc_Minit pm_Minit an_Minit cd_Minit ct_Minit), sl_Minit⟩)
    (c_Minit : PySem.W.codeIn K cd_Minit "Family.__init__" = true)
    (k_Minit : PySem.W.keepIn K (.ref f_Minit) = true)
    (a_Meq : PySem.W.findIn K (.ref C) "__eq__" = some (some (.ref f_Meq)))
    (i_Meq : PySem.W.isFn K (.ref f_Meq) = true)
    (l_Meq : K.lookup f_Meq = some ⟨oc_Meq, od_Meq, .func (PySem.W.fnOf "__eq__" "Family.__eq__" (defArgs s_Family_eq) (defBody s_Family_eq) (defScope s_Family_eq) .none kV_Meq dc_Meq pm_Meq an_Meq cd_Meq ct_Meq), sl_Meq⟩)
    (c_Meq : PySem.W.codeIn K cd_Meq "Family.__eq__" = true)
    (k_Meq : PySem.W.keepIn K (.ref f_Meq) = true)
    (a_Minvert : PySem.W.findIn K (.ref C) "__invert__" = some (some (.ref f_Minvert)))
    (i_Minvert : PySem.W.isFn K (.ref f_Minvert) = true)
    (l_Minvert : K.lookup f_Minvert = some ⟨oc_Minvert, od_Minvert, .func (PySem.W.fnOf "__invert__" "Family.__invert__" (defArgs s_Family_invert) (defBody s_Family_invert) (defScope s_Family_invert) .none kV_Minvert dc_Minvert pm_Minvert an_Minvert cd_Minvert ct_Minvert), sl_Minvert⟩)
    (c_Minvert : PySem.W.codeIn K cd_Minvert "Family.__invert__" = true)
    (k_Minvert : PySem.W.keepIn K (.ref f_Minvert) = true)
    (a_Mholds : PySem.W.findIn K (.ref C) "holds" = some (some (.ref f_Mholds)))
    (i_Mholds : PySem.W.isFn K (.ref f_Mholds) = true)
    (l_Mholds : K.lookup f_Mholds = some ⟨oc_Mholds, od_Mholds, .func (PySem.W.fnOf "holds" "Family.holds" (defArgs s_Family_holds) (defBody s_Family_holds) (defScope s_Family_holds) .none kV_Mholds dc_Mholds pm_Mholds an_Mholds cd_Mholds ct_Mholds), sl_Mholds⟩)
    (c_Mholds : PySem.W.codeIn K cd_Mholds "Family.holds" = true)
    (k_Mholds : PySem.W.keepIn K (.ref f_Mholds) = true)
    (a_law_pick : PySem.W.nsIn K mainGlobals "_law_pick" = some (some (.ref f_law_pick)))
    (l_law_pick : K.lookup f_law_pick = some ⟨oc_law_pick, od_law_pick, .func (PySem.W.fnOf "_law_pick" "_law_pick" (defArgs s_law_pick) (defBody s_law_pick) (defScope s_law_pick) .none kV_law_pick dc_law_pick pm_law_pick an_law_pick cd_law_pick ct_law_pick), sl_law_pick⟩)
    (c_law_pick : PySem.W.codeIn K cd_law_pick "_law_pick" = true)
    (k_law_pick : PySem.W.keepIn K (.ref f_law_pick) = true)
    (a_law_chosen : PySem.W.nsIn K mainGlobals "_law_chosen" = some (some (.ref f_law_chosen)))
    (l_law_chosen : K.lookup f_law_chosen = some ⟨oc_law_chosen, od_law_chosen, .func (PySem.W.fnOf "_law_chosen" "_law_chosen" (defArgs s_law_chosen) (defBody s_law_chosen) (defScope s_law_chosen) .none kV_law_chosen dc_law_chosen pm_law_chosen an_law_chosen cd_law_chosen ct_law_chosen), sl_law_chosen⟩)
    (c_law_chosen : PySem.W.codeIn K cd_law_chosen "_law_chosen" = true)
    (k_law_chosen : PySem.W.keepIn K (.ref f_law_chosen) = true)
    (a_law_mixed_lots : PySem.W.nsIn K mainGlobals "_law_mixed_lots" = some (some (.ref f_law_mixed_lots)))
    (l_law_mixed_lots : K.lookup f_law_mixed_lots = some ⟨oc_law_mixed_lots, od_law_mixed_lots, .func (PySem.W.fnOf "_law_mixed_lots" "_law_mixed_lots" (defArgs s_law_mixed_lots) (defBody s_law_mixed_lots) (defScope s_law_mixed_lots) .none kV_law_mixed_lots dc_law_mixed_lots pm_law_mixed_lots an_law_mixed_lots cd_law_mixed_lots ct_law_mixed_lots), sl_law_mixed_lots⟩)
    (c_law_mixed_lots : PySem.W.codeIn K cd_law_mixed_lots "_law_mixed_lots" = true)
    (k_law_mixed_lots : PySem.W.keepIn K (.ref f_law_mixed_lots) = true)
    (a_law_draws : PySem.W.nsIn K mainGlobals "_law_draws" = some (some (.ref f_law_draws)))
    (l_law_draws : K.lookup f_law_draws = some ⟨oc_law_draws, od_law_draws, .func (PySem.W.fnOf "_law_draws" "_law_draws" (defArgs s_law_draws) (defBody s_law_draws) (defScope s_law_draws) .none kV_law_draws dc_law_draws pm_law_draws an_law_draws cd_law_draws ct_law_draws), sl_law_draws⟩)
    (c_law_draws : PySem.W.codeIn K cd_law_draws "_law_draws" = true)
    (k_law_draws : PySem.W.keepIn K (.ref f_law_draws) = true)
    (a_lots_put : PySem.W.nsIn K mainGlobals "lots_put" = some (some (.ref f_lots_put)))
    (l_lots_put : K.lookup f_lots_put = some ⟨oc_lots_put, od_lots_put, .func (PySem.W.fnOf "lots_put" "lots_put" (defArgs s_lots_put) (defBody s_lots_put) (defScope s_lots_put) .none kV_lots_put dc_lots_put pm_lots_put an_lots_put cd_lots_put ct_lots_put), sl_lots_put⟩)
    (c_lots_put : PySem.W.codeIn K cd_lots_put "lots_put" = true)
    (k_lots_put : PySem.W.keepIn K (.ref f_lots_put) = true)
    (a_family_list : PySem.W.nsIn K mainGlobals "family_list" = some (some (.ref f_family_list)))
    (l_family_list : K.lookup f_family_list = some ⟨oc_family_list, od_family_list, .func (PySem.W.fnOf "family_list" "family_list" (defArgs s_family_list) (defBody s_family_list) (defScope s_family_list) .none kV_family_list dc_family_list pm_family_list an_family_list cd_family_list ct_family_list), sl_family_list⟩)
    (c_family_list : PySem.W.codeIn K cd_family_list "family_list" = true)
    (k_family_list : PySem.W.keepIn K (.ref f_family_list) = true)
    (a_starts_of : PySem.W.nsIn K mainGlobals "starts_of" = some (some (.ref f_starts_of)))
    (l_starts_of : K.lookup f_starts_of = some ⟨oc_starts_of, od_starts_of, .func (PySem.W.fnOf "starts_of" "starts_of" (defArgs s_starts_of) (defBody s_starts_of) (defScope s_starts_of) .none kV_starts_of dc_starts_of pm_starts_of an_starts_of cd_starts_of ct_starts_of), sl_starts_of⟩)
    (c_starts_of : PySem.W.codeIn K cd_starts_of "starts_of" = true)
    (k_starts_of : PySem.W.keepIn K (.ref f_starts_of) = true)
    (a_ask_thing : PySem.W.nsIn K mainGlobals "ask_thing" = some (some (.ref f_ask_thing)))
    (l_ask_thing : K.lookup f_ask_thing = some ⟨oc_ask_thing, od_ask_thing, .func (PySem.W.fnOf "ask_thing" "ask_thing" (defArgs s_ask_thing) (defBody s_ask_thing) (defScope s_ask_thing) .none kV_ask_thing dc_ask_thing pm_ask_thing an_ask_thing cd_ask_thing ct_ask_thing), sl_ask_thing⟩)
    (c_ask_thing : PySem.W.codeIn K cd_ask_thing "ask_thing" = true)
    (k_ask_thing : PySem.W.keepIn K (.ref f_ask_thing) = true)
    (a_lots_without : PySem.W.nsIn K mainGlobals "lots_without" = some (some (.ref f_lots_without)))
    (l_lots_without : K.lookup f_lots_without = some ⟨oc_lots_without, od_lots_without, .func (PySem.W.fnOf "lots_without" "lots_without" (defArgs s_lots_without) (defBody s_lots_without) (defScope s_lots_without) .none kV_lots_without dc_lots_without pm_lots_without an_lots_without cd_lots_without ct_lots_without), sl_lots_without⟩)
    (c_lots_without : PySem.W.codeIn K cd_lots_without "lots_without" = true)
    (k_lots_without : PySem.W.keepIn K (.ref f_lots_without) = true)
    (a_lots_held : PySem.W.nsIn K mainGlobals "lots_held" = some (some (.ref f_lots_held)))
    (l_lots_held : K.lookup f_lots_held = some ⟨oc_lots_held, od_lots_held, .func (PySem.W.fnOf "lots_held" "lots_held" (defArgs s_lots_held) (defBody s_lots_held) (defScope s_lots_held) .none kV_lots_held dc_lots_held pm_lots_held an_lots_held cd_lots_held ct_lots_held), sl_lots_held⟩)
    (c_lots_held : PySem.W.codeIn K cd_lots_held "lots_held" = true)
    (k_lots_held : PySem.W.keepIn K (.ref f_lots_held) = true)
    (at_Msingle : PySem.W.findCls K (.ref C) (.type "type") "single" = some (.get (.builtin "classmethod.__get__") (.ref p_Msingle) .none (.ref C)))
    (rc_Msingle : PySem.W.recIn K p_Msingle "classmethod" = some (.ref f_Msingle :: r_Msingle))
    (fn_Msingle : PySem.W.fnIn K f_Msingle = true)
    (rd_Msingle : PySem.W.readsIn K C (.type "type") = true)
    (ga_Msingle : PySem.W.specialIn K (.ref C) "__getattribute__" = some (some (.builtin "type.__getattribute__")))
    (l_Msingle : K.lookup f_Msingle = some ⟨oc_Msingle, od_Msingle, .func (PySem.W.fnOf "single" "Family.single" (defArgs s_Family_single) (defBody s_Family_single) (defScope s_Family_single) .none kV_Msingle dc_Msingle pm_Msingle an_Msingle cd_Msingle ct_Msingle), sl_Msingle⟩)
    (c_Msingle : PySem.W.codeIn K cd_Msingle "Family.single" = true)
    (k_Msingle : PySem.W.keepIn K (.ref f_Msingle) = true)
    (a_Msub : PySem.W.findIn K (.ref C) (PySem.dunder Operator.Sub.info.2) = some (some (.ref f_Msub)))
    (i_Msub : PySem.W.isFn K (.ref f_Msub) = true)
    (b1_Msub : PySem.W.selfFirst K C = true)
    (b2_Msub : PySem.W.findIn K (.ref C) (dunderR Operator.Sub.info.2) = some none)
    (b3_Msub : PySem.W.findIn K (.type "int") (PySem.dunder Operator.Sub.info.2) = some fo_Msub)
    (b4_Msub : PySem.W.findIn K (.type "int") (dunderR Operator.Sub.info.2) = some ro_Msub)
    (b5_Msub : PySem.W.subIn K (.type "int") (.ref C) = some false)
    (l_Msub : K.lookup f_Msub = some ⟨oc_Msub, od_Msub, .func (PySem.W.fnOf "__sub__" "Family.__sub__" (defArgs s_Family_sub) (defBody s_Family_sub) (defScope s_Family_sub) .none kV_Msub dc_Msub pm_Msub an_Msub cd_Msub ct_Msub), sl_Msub⟩)
    (c_Msub : PySem.W.codeIn K cd_Msub "Family.__sub__" = true)
    (k_Msub : PySem.W.keepIn K (.ref f_Msub) = true)
    (a_Mfloordiv : PySem.W.findIn K (.ref C) (PySem.dunder Operator.FloorDiv.info.2) = some (some (.ref f_Mfloordiv)))
    (i_Mfloordiv : PySem.W.isFn K (.ref f_Mfloordiv) = true)
    (b1_Mfloordiv : PySem.W.selfFirst K C = true)
    (b2_Mfloordiv : PySem.W.findIn K (.ref C) (dunderR Operator.FloorDiv.info.2) = some none)
    (b3_Mfloordiv : PySem.W.findIn K (.type "int") (PySem.dunder Operator.FloorDiv.info.2) = some fo_Mfloordiv)
    (b4_Mfloordiv : PySem.W.findIn K (.type "int") (dunderR Operator.FloorDiv.info.2) = some ro_Mfloordiv)
    (b5_Mfloordiv : PySem.W.subIn K (.type "int") (.ref C) = some false)
    (l_Mfloordiv : K.lookup f_Mfloordiv = some ⟨oc_Mfloordiv, od_Mfloordiv, .func (PySem.W.fnOf "__floordiv__" "Family.__floordiv__" (defArgs s_Family_floordiv) (defBody s_Family_floordiv) (defScope s_Family_floordiv) .none kV_Mfloordiv dc_Mfloordiv pm_Mfloordiv an_Mfloordiv cd_Mfloordiv ct_Mfloordiv), sl_Mfloordiv⟩)
    (c_Mfloordiv : PySem.W.codeIn K cd_Mfloordiv "Family.__floordiv__" = true)
    (k_Mfloordiv : PySem.W.keepIn K (.ref f_Mfloordiv) = true)
    (a_families_for : PySem.W.nsIn K mainGlobals "families_for" = some (some (.ref f_families_for)))
    (l_families_for : K.lookup f_families_for = some ⟨oc_families_for, od_families_for, .func (PySem.W.fnOf "families_for" "families_for" (defArgs s_families_for) (defBody s_families_for) (defScope s_families_for) .none kV_families_for dc_families_for pm_families_for an_families_for cd_families_for ct_families_for), sl_families_for⟩)
    (c_families_for : PySem.W.codeIn K cd_families_for "families_for" = true)
    (k_families_for : PySem.W.keepIn K (.ref f_families_for) = true)
    (a_Mcall : PySem.W.findIn K (.ref C) "__call__" = some (some (.ref f_Mcall)))
    (i_Mcall : PySem.W.isFn K (.ref f_Mcall) = true)
    (fn_Mcall : PySem.W.fnIn K f_Mcall = true)
    (l_Mcall : K.lookup f_Mcall = some ⟨oc_Mcall, od_Mcall, .func (PySem.W.fnOf "__call__" "Family.__call__" (defArgs s_Family_call) (defBody s_Family_call) (defScope s_Family_call) .none kV_Mcall dc_Mcall pm_Mcall an_Mcall cd_Mcall ct_Mcall), sl_Mcall⟩)
    (c_Mcall : PySem.W.codeIn K cd_Mcall "Family.__call__" = true)
    (k_Mcall : PySem.W.keepIn K (.ref f_Mcall) = true)
    (a_put_in : PySem.W.nsIn K mainGlobals "put_in" = some (some (.ref f_put_in)))
    (l_put_in : K.lookup f_put_in = some ⟨oc_put_in, od_put_in, .func (PySem.W.fnOf "put_in" "put_in" (defArgs s_put_in) (defBody s_put_in) (defScope s_put_in) .none kV_put_in dc_put_in pm_put_in an_put_in cd_put_in ct_put_in), sl_put_in⟩)
    (c_put_in : PySem.W.codeIn K cd_put_in "put_in" = true)
    (k_put_in : PySem.W.keepIn K (.ref f_put_in) = true)
    (a_place_of : PySem.W.nsIn K mainGlobals "place_of" = some (some (.ref f_place_of)))
    (l_place_of : K.lookup f_place_of = some ⟨oc_place_of, od_place_of, .func (PySem.W.fnOf "place_of" "place_of" (defArgs s_place_of) (defBody s_place_of) (defScope s_place_of) .none kV_place_of dc_place_of pm_place_of an_place_of cd_place_of ct_place_of), sl_place_of⟩)
    (c_place_of : PySem.W.codeIn K cd_place_of "place_of" = true)
    (k_place_of : PySem.W.keepIn K (.ref f_place_of) = true)
    (a_law_holds : PySem.W.nsIn K mainGlobals "_law_holds" = some (some (.ref f_law_holds)))
    (l_law_holds : K.lookup f_law_holds = some ⟨oc_law_holds, od_law_holds, .func (PySem.W.fnOf "_law_holds" "_law_holds" (defArgs s_law_holds) (defBody s_law_holds) (defScope s_law_holds) .none kV_law_holds dc_law_holds pm_law_holds an_law_holds cd_law_holds ct_law_holds), sl_law_holds⟩)
    (c_law_holds : PySem.W.codeIn K cd_law_holds "_law_holds" = true)
    (k_law_holds : PySem.W.keepIn K (.ref f_law_holds) = true)
    (a_law_small : PySem.W.nsIn K mainGlobals "_law_small" = some (some (.ref f_law_small)))
    (l_law_small : K.lookup f_law_small = some ⟨oc_law_small, od_law_small, .func (PySem.W.fnOf "_law_small" "_law_small" (defArgs s_law_small) (defBody s_law_small) (defScope s_law_small) .none kV_law_small dc_law_small pm_law_small an_law_small cd_law_small ct_law_small), sl_law_small⟩)
    (c_law_small : PySem.W.codeIn K cd_law_small "_law_small" = true)
    (k_law_small : PySem.W.keepIn K (.ref f_law_small) = true)
    (a_law_starts : PySem.W.nsIn K mainGlobals "_law_starts" = some (some (.ref f_law_starts)))
    (l_law_starts : K.lookup f_law_starts = some ⟨oc_law_starts, od_law_starts, .func (PySem.W.fnOf "_law_starts" "_law_starts" (defArgs s_law_starts) (defBody s_law_starts) (defScope s_law_starts) .none kV_law_starts dc_law_starts pm_law_starts an_law_starts cd_law_starts ct_law_starts), sl_law_starts⟩)
    (c_law_starts : PySem.W.codeIn K cd_law_starts "_law_starts" = true)
    (k_law_starts : PySem.W.keepIn K (.ref f_law_starts) = true)
    (a_law_put_lots : PySem.W.nsIn K mainGlobals "_law_put_lots" = some (some (.ref f_law_put_lots)))
    (l_law_put_lots : K.lookup f_law_put_lots = some ⟨oc_law_put_lots, od_law_put_lots, .func (PySem.W.fnOf "_law_put_lots" "_law_put_lots" (defArgs s_law_put_lots) (defBody s_law_put_lots) (defScope s_law_put_lots) .none kV_law_put_lots dc_law_put_lots pm_law_put_lots an_law_put_lots cd_law_put_lots ct_law_put_lots), sl_law_put_lots⟩)
    (c_law_put_lots : PySem.W.codeIn K cd_law_put_lots "_law_put_lots" = true)
    (k_law_put_lots : PySem.W.keepIn K (.ref f_law_put_lots) = true)
    (a_law_share_holds : PySem.W.nsIn K mainGlobals "_law_share_holds" = some (some (.ref f_law_share_holds)))
    (l_law_share_holds : K.lookup f_law_share_holds = some ⟨oc_law_share_holds, od_law_share_holds, .func (PySem.W.fnOf "_law_share_holds" "_law_share_holds" (defArgs s_law_share_holds) (defBody s_law_share_holds) (defScope s_law_share_holds) .none kV_law_share_holds dc_law_share_holds pm_law_share_holds an_law_share_holds cd_law_share_holds ct_law_share_holds), sl_law_share_holds⟩)
    (c_law_share_holds : PySem.W.codeIn K cd_law_share_holds "_law_share_holds" = true)
    (k_law_share_holds : PySem.W.keepIn K (.ref f_law_share_holds) = true)
    (a_law_held_sets : PySem.W.nsIn K mainGlobals "_law_held_sets" = some (some (.ref f_law_held_sets)))
    (l_law_held_sets : K.lookup f_law_held_sets = some ⟨oc_law_held_sets, od_law_held_sets, .func (PySem.W.fnOf "_law_held_sets" "_law_held_sets" (defArgs s_law_held_sets) (defBody s_law_held_sets) (defScope s_law_held_sets) .none kV_law_held_sets dc_law_held_sets pm_law_held_sets an_law_held_sets cd_law_held_sets ct_law_held_sets), sl_law_held_sets⟩)
    (c_law_held_sets : PySem.W.codeIn K cd_law_held_sets "_law_held_sets" = true)
    (k_law_held_sets : PySem.W.keepIn K (.ref f_law_held_sets) = true)
    (a_law_step : PySem.W.nsIn K mainGlobals "_law_step" = some (some (.ref f_law_step)))
    (l_law_step : K.lookup f_law_step = some ⟨oc_law_step, od_law_step, .func (PySem.W.fnOf "_law_step" "_law_step" (defArgs s_law_step) (defBody s_law_step) (defScope s_law_step) .none kV_law_step dc_law_step pm_law_step an_law_step cd_law_step ct_law_step), sl_law_step⟩)
    (c_law_step : PySem.W.codeIn K cd_law_step "_law_step" = true)
    (k_law_step : PySem.W.keepIn K (.ref f_law_step) = true)
    (a_law_put_word : PySem.W.nsIn K mainGlobals "_law_put_word" = some (some (.ref f_law_put_word)))
    (l_law_put_word : K.lookup f_law_put_word = some ⟨oc_law_put_word, od_law_put_word, .func (PySem.W.fnOf "_law_put_word" "_law_put_word" (defArgs s_law_put_word) (defBody s_law_put_word) (defScope s_law_put_word) .none kV_law_put_word dc_law_put_word pm_law_put_word an_law_put_word cd_law_put_word ct_law_put_word), sl_law_put_word⟩)
    (c_law_put_word : PySem.W.codeIn K cd_law_put_word "_law_put_word" = true)
    (k_law_put_word : PySem.W.keepIn K (.ref f_law_put_word) = true)
    (a_law_place_word : PySem.W.nsIn K mainGlobals "_law_place_word" = some (some (.ref f_law_place_word)))
    (l_law_place_word : K.lookup f_law_place_word = some ⟨oc_law_place_word, od_law_place_word, .func (PySem.W.fnOf "_law_place_word" "_law_place_word" (defArgs s_law_place_word) (defBody s_law_place_word) (defScope s_law_place_word) .none kV_law_place_word dc_law_place_word pm_law_place_word an_law_place_word cd_law_place_word ct_law_place_word), sl_law_place_word⟩)
    (c_law_place_word : PySem.W.codeIn K cd_law_place_word "_law_place_word" = true)
    (k_law_place_word : PySem.W.keepIn K (.ref f_law_place_word) = true)
    (a_law_one_less : PySem.W.nsIn K mainGlobals "_law_one_less" = some (some (.ref f_law_one_less)))
    (l_law_one_less : K.lookup f_law_one_less = some ⟨oc_law_one_less, od_law_one_less, .func (PySem.W.fnOf "_law_one_less" "_law_one_less" (defArgs s_law_one_less) (defBody s_law_one_less) (defScope s_law_one_less) .none kV_law_one_less dc_law_one_less pm_law_one_less an_law_one_less cd_law_one_less ct_law_one_less), sl_law_one_less⟩)
    (c_law_one_less : PySem.W.codeIn K cd_law_one_less "_law_one_less" = true)
    (k_law_one_less : PySem.W.keepIn K (.ref f_law_one_less) = true)
    (a_law_inner : PySem.W.nsIn K mainGlobals "_law_inner" = some (some (.ref f_law_inner)))
    (l_law_inner : K.lookup f_law_inner = some ⟨oc_law_inner, od_law_inner, .func (PySem.W.fnOf "_law_inner" "_law_inner" (defArgs s_law_inner) (defBody s_law_inner) (defScope s_law_inner) .none kV_law_inner dc_law_inner pm_law_inner an_law_inner cd_law_inner ct_law_inner), sl_law_inner⟩)
    (c_law_inner : PySem.W.codeIn K cd_law_inner "_law_inner" = true)
    (k_law_inner : PySem.W.keepIn K (.ref f_law_inner) = true)
    (a_law_twice : PySem.W.nsIn K mainGlobals "_law_twice" = some (some (.ref f_law_twice)))
    (l_law_twice : K.lookup f_law_twice = some ⟨oc_law_twice, od_law_twice, .func (PySem.W.fnOf "_law_twice" "_law_twice" (defArgs s_law_twice) (defBody s_law_twice) (defScope s_law_twice) .none kV_law_twice dc_law_twice pm_law_twice an_law_twice cd_law_twice ct_law_twice), sl_law_twice⟩)
    (c_law_twice : PySem.W.codeIn K cd_law_twice "_law_twice" = true)
    (k_law_twice : PySem.W.keepIn K (.ref f_law_twice) = true)
    (a_law_refusals : PySem.W.nsIn K mainGlobals "_law_refusals" = some (some (.ref f_law_refusals)))
    (l_law_refusals : K.lookup f_law_refusals = some ⟨oc_law_refusals, od_law_refusals, .func (PySem.W.fnOf "_law_refusals" "_law_refusals" (defArgs s_law_refusals) (defBody s_law_refusals) (defScope s_law_refusals) .none kV_law_refusals dc_law_refusals pm_law_refusals an_law_refusals cd_law_refusals ct_law_refusals), sl_law_refusals⟩)
    (c_law_refusals : PySem.W.codeIn K cd_law_refusals "_law_refusals" = true)
    (k_law_refusals : PySem.W.keepIn K (.ref f_law_refusals) = true)
    (a_law_int : PySem.W.nsIn K mainGlobals "_law_int" = some (some (.ref f_law_int)))
    (l_law_int : K.lookup f_law_int = some ⟨oc_law_int, od_law_int, .func (PySem.W.fnOf "_law_int" "_law_int" (defArgs s_law_int) (defBody s_law_int) (defScope s_law_int) .none kV_law_int dc_law_int pm_law_int an_law_int cd_law_int ct_law_int), sl_law_int⟩)
    (c_law_int : PySem.W.codeIn K cd_law_int "_law_int" = true)
    (k_law_int : PySem.W.keepIn K (.ref f_law_int) = true)
    (a_law : PySem.W.nsIn K mainGlobals "law" = some (some (.ref f_law)))
    (l_law : K.lookup f_law = some ⟨oc_law, od_law, .func (PySem.W.fnOf "law" "law" (defArgs s_law) (defBody s_law) (defScope s_law) .none kV_law dc_law pm_law an_law cd_law ct_law), sl_law⟩)
    (c_law : PySem.W.codeIn K cd_law "law" = true)
    (k_law : PySem.W.keepIn K (.ref f_law) = true)
    (pg : PySem.W.plainGet K C Str.empty = true)
    (hd : PySem.W.hasDictIn K C = true)
    (po : PySem.W.plainOver K C = true)
    (sa : PySem.W.findIn K (.ref C) "__setattr__" = some (some (.builtin "object.__setattr__")))
    (mk : PySem.W.makesIn K C = true)
    (kc : PySem.W.keepIn K (.ref C) = true)
    (nT : PySem.W.findIn K (.ref C) "things" = some none)
    (nL : PySem.W.findIn K (.ref C) "lots" = some none)
    (nf : PySem.W.notFirst K C (.ref C) = true)
    (tyC : PySem.W.typeIn K (.ref C) = some (.type "type"))
    (oc1 : PySem.W.findIn K (.ref C) "__class__" = some (some (.builtin "object.__class__")))
    (oc2 : PySem.W.specialIn K (.builtin "object.__class__") "__get__" = some (some (.builtin "getset_descriptor.__get__")))
    (oc3 : PySem.W.takesIn K (.builtin "object.__class__") = some true)
    (oc4 : PySem.W.mroIn K C (.type "object") = some true)
    (zsuper : PySem.W.nsIn K mainGlobals "super" = some none)
    (any : PySem.W.nsIn K cStatics "thirdparty.any" = some none)
    (topsup : (P.main.scope.names.lookup ("super" : Str)).isSome = false)
    (bB1 : PySem.W.findIn K (.ref CB) "__init__" = some (some (.ref fB)))
    (bB2 : PySem.W.excInitIn K CB excB "Exception.__new__" = true)
    (bB3 : PySem.W.excOver K CB excB = true)
    (bB4 : PySem.W.isFn K (.ref fB) = true)
    (bB5 : K.lookup fB = some ⟨ocB, odB, .func (PySem.W.ksFn "__init__" "BadSet.__init__" parB (excBody "bad set: place " jB pB0 pB1 pB2 pB3 pB4 pB5 pB6 pB7 pB8 pB9 pB10 pB11 pB12) excScope dVB kVB docB pmB anB (.ref cdaB) ctB ccB), slB⟩)
    (bB6 : PySem.W.codeIn K (.ref cdaB) "BadSet.__init__" = true)
    (bB7 : ∀ u v : Value, bindArgs (PySem.W.ksFn "__init__" "BadSet.__init__" parB (excBody "bad set: place " jB pB0 pB1 pB2 pB3 pB4 pB5 pB6 pB7 pB8 pB9 pB10 pB11 pB12) excScope dVB kVB docB pmB anB (.ref cdaB) ctB ccB) ⟨[u, v], []⟩ = (pure [(("self" : Str), u), (("place" : Str), v)] : Sem (List (Str × Value))))
    (bB8 : (parB.posonlyargs ++ parB.args).head? = some arB)
    (bB9 : arB.arg = "self")
    (bB10 : K.lookup cdaB = some ⟨cclB, cddB, .fields vsB, ccsB⟩)
    (bB11 : vsB[2]? = some (.str fileB tfB))
    (bB12 : ((P.main.file : Str) == fileB) = true)
    (bB13 : K.lookup ccB = some ⟨clB, cldB, .cell (some (.ref CB)), cslB⟩)
    (bBC : ∀ L : Addr, ∃ pl : Sem Bool, eval (.Call (.Attribute (.Call (.Name "super" pB0) [] [] pB1) "__init__" pB2) [.JoinedStr [.Constant (.str "bad set: place ") jB pB3, .FormattedValue (.Name "place" pB4) (-1) none pB5] pB6] [] pB7) (PySem.W.ksEnv "BadSet.__init__" excScope L fB (.ref cdaB) ccB) = (do let ov ← attributeBase (.Call (.Name "super" pB0) [] [] pB1) "__init__" (PySem.W.ksEnv "BadSet.__init__" excScope L fB (.ref cdaB) ccB) (eval (.Call (.Name "super" pB0) [] [] pB1) (PySem.W.ksEnv "BadSet.__init__" excScope L fB (.ref cdaB) ccB)); standAt pB2.atName; let (fm, first) ← holding [ov] (getMethod ov "__init__" pl); callWith pB7 fm first (backTo pB7 (starEach [.JoinedStr [.Constant (.str "bad set: place ") jB pB3, .FormattedValue (.Name "place" pB4) (-1) none pB5] pB6] (PySem.W.ksEnv "BadSet.__init__" excScope L fB (.ref cdaB) ccB))) []))
    (bB14 : PySem.W.ks_superIn K CB CB "__init__" = some (some (.builtin "Exception.__init__")))
    (bB16 : PySem.W.subIn K (.ref CB) (.type "Exception") = some true)
    (bB17 : PySem.W.mroIn K CB (.ref CB) = some true)
    (bB18 : PySem.W.findIn K (.ref CB) "__setattr__" = some (some (.builtin "object.__setattr__")))
    (bB19 : PySem.W.takerIn K CB "place" = some none)
    (bB20 : PySem.W.hasDictIn K CB = true)
    (bB21 : PySem.W.subIn K (.ref CB) (.type "BaseException") = some true)
    (bB22 : PySem.W.typeIn K (.ref CB) = some (.type "type"))
    (bB23 : PySem.W.keepIn K (.ref CB) = true)
    (bN1 : PySem.W.findIn K (.ref CN) "__init__" = some (some (.ref fN)))
    (bN2 : PySem.W.excInitIn K CN excB "Exception.__new__" = true)
    (bN3 : PySem.W.excOver K CN excB = true)
    (bN4 : PySem.W.isFn K (.ref fN) = true)
    (bN5 : K.lookup fN = some ⟨ocN, odN, .func (PySem.W.ksFn "__init__" "BadNumber.__init__" parN (exsBody "bad number: " jN pN0 pN1 pN2 pN3 pN4 pN5 pN6 pN7 pN8 pN9 pN10 pN11 pN12) exsScope dVN kVN docN pmN anN (.ref cdaN) ctN ccN), slN⟩)
    (bN6 : PySem.W.codeIn K (.ref cdaN) "BadNumber.__init__" = true)
    (bN7 : ∀ u v : Value, bindArgs (PySem.W.ksFn "__init__" "BadNumber.__init__" parN (exsBody "bad number: " jN pN0 pN1 pN2 pN3 pN4 pN5 pN6 pN7 pN8 pN9 pN10 pN11 pN12) exsScope dVN kVN docN pmN anN (.ref cdaN) ctN ccN) ⟨[u, v], []⟩ = (pure [(("self" : Str), u), (("word" : Str), v)] : Sem (List (Str × Value))))
    (bN8 : (parN.posonlyargs ++ parN.args).head? = some arN)
    (bN9 : arN.arg = "self")
    (bN10 : K.lookup cdaN = some ⟨cclN, cddN, .fields vsN, ccsN⟩)
    (bN11 : vsN[2]? = some (.str fileN tfN))
    (bN12 : ((P.main.file : Str) == fileN) = true)
    (bN13 : K.lookup ccN = some ⟨clN, cldN, .cell (some (.ref CN)), cslN⟩)
    (bNC : ∀ L : Addr, ∃ pl : Sem Bool, eval (.Call (.Attribute (.Call (.Name "super" pN0) [] [] pN1) "__init__" pN2) [.JoinedStr [.Constant (.str "bad number: ") jN pN3, .FormattedValue (.Name "word" pN4) (-1) none pN5] pN6] [] pN7) (PySem.W.ksEnv "BadNumber.__init__" exsScope L fN (.ref cdaN) ccN) = (do let ov ← attributeBase (.Call (.Name "super" pN0) [] [] pN1) "__init__" (PySem.W.ksEnv "BadNumber.__init__" exsScope L fN (.ref cdaN) ccN) (eval (.Call (.Name "super" pN0) [] [] pN1) (PySem.W.ksEnv "BadNumber.__init__" exsScope L fN (.ref cdaN) ccN)); standAt pN2.atName; let (fm, first) ← holding [ov] (getMethod ov "__init__" pl); callWith pN7 fm first (backTo pN7 (starEach [.JoinedStr [.Constant (.str "bad number: ") jN pN3, .FormattedValue (.Name "word" pN4) (-1) none pN5] pN6] (PySem.W.ksEnv "BadNumber.__init__" exsScope L fN (.ref cdaN) ccN))) []))
    (bN14 : PySem.W.ks_superIn K CN CN "__init__" = some (some (.builtin "Exception.__init__")))
    (bN16 : PySem.W.subIn K (.ref CN) (.type "Exception") = some true)
    (bN17 : PySem.W.mroIn K CN (.ref CN) = some true)
    (bN18 : PySem.W.findIn K (.ref CN) "__setattr__" = some (some (.builtin "object.__setattr__")))
    (bN19 : PySem.W.takerIn K CN "word" = some none)
    (bN20 : PySem.W.hasDictIn K CN = true)
    (bN21 : PySem.W.subIn K (.ref CN) (.type "BaseException") = some true)
    (bN22 : PySem.W.typeIn K (.ref CN) = some (.type "type"))
    (bN23 : PySem.W.keepIn K (.ref CN) = true)
    (bN25 : PySem.W.findIn K (.ref CN) "__getattribute__" = some (some (.builtin "BaseException.__getattribute__")))
    (bN26 : PySem.W.findIn K (.ref CN) "__getattr__" = some none)
    (bN27 : PySem.W.findIn K (.ref CN) "word" = some none)
    (bF1 : PySem.W.findIn K (.ref CF) "__init__" = some (some (.ref fF)))
    (bF2 : PySem.W.excInitIn K CF excB "Exception.__new__" = true)
    (bF3 : PySem.W.excOver K CF excB = true)
    (bF4 : PySem.W.isFn K (.ref fF) = true)
    (bF5 : K.lookup fF = some ⟨ocF, odF, .func (PySem.W.ksFn "__init__" "BadFamily.__init__" parF (excBody "bad family: place " jF pF0 pF1 pF2 pF3 pF4 pF5 pF6 pF7 pF8 pF9 pF10 pF11 pF12) excScope dVF kVF docF pmF anF (.ref cdaF) ctF ccF), slF⟩)
    (bF6 : PySem.W.codeIn K (.ref cdaF) "BadFamily.__init__" = true)
    (bF7 : ∀ u v : Value, bindArgs (PySem.W.ksFn "__init__" "BadFamily.__init__" parF (excBody "bad family: place " jF pF0 pF1 pF2 pF3 pF4 pF5 pF6 pF7 pF8 pF9 pF10 pF11 pF12) excScope dVF kVF docF pmF anF (.ref cdaF) ctF ccF) ⟨[u, v], []⟩ = (pure [(("self" : Str), u), (("place" : Str), v)] : Sem (List (Str × Value))))
    (bF8 : (parF.posonlyargs ++ parF.args).head? = some arF)
    (bF9 : arF.arg = "self")
    (bF10 : K.lookup cdaF = some ⟨cclF, cddF, .fields vsF, ccsF⟩)
    (bF11 : vsF[2]? = some (.str fileF tfF))
    (bF12 : ((P.main.file : Str) == fileF) = true)
    (bF13 : K.lookup ccF = some ⟨clF, cldF, .cell (some (.ref CF)), cslF⟩)
    (bFC : ∀ L : Addr, ∃ pl : Sem Bool, eval (.Call (.Attribute (.Call (.Name "super" pF0) [] [] pF1) "__init__" pF2) [.JoinedStr [.Constant (.str "bad family: place ") jF pF3, .FormattedValue (.Name "place" pF4) (-1) none pF5] pF6] [] pF7) (PySem.W.ksEnv "BadFamily.__init__" excScope L fF (.ref cdaF) ccF) = (do let ov ← attributeBase (.Call (.Name "super" pF0) [] [] pF1) "__init__" (PySem.W.ksEnv "BadFamily.__init__" excScope L fF (.ref cdaF) ccF) (eval (.Call (.Name "super" pF0) [] [] pF1) (PySem.W.ksEnv "BadFamily.__init__" excScope L fF (.ref cdaF) ccF)); standAt pF2.atName; let (fm, first) ← holding [ov] (getMethod ov "__init__" pl); callWith pF7 fm first (backTo pF7 (starEach [.JoinedStr [.Constant (.str "bad family: place ") jF pF3, .FormattedValue (.Name "place" pF4) (-1) none pF5] pF6] (PySem.W.ksEnv "BadFamily.__init__" excScope L fF (.ref cdaF) ccF))) []))
    (bF14 : PySem.W.ks_superIn K CF CF "__init__" = some (some (.builtin "Exception.__init__")))
    (bF16 : PySem.W.subIn K (.ref CF) (.type "Exception") = some true)
    (bF17 : PySem.W.mroIn K CF (.ref CF) = some true)
    (bF18 : PySem.W.findIn K (.ref CF) "__setattr__" = some (some (.builtin "object.__setattr__")))
    (bF19 : PySem.W.takerIn K CF "place" = some none)
    (bF20 : PySem.W.hasDictIn K CF = true)
    (bF21 : PySem.W.subIn K (.ref CF) (.type "BaseException") = some true)
    (bF22 : PySem.W.typeIn K (.ref CF) = some (.type "type"))
    (bF23 : PySem.W.keepIn K (.ref CF) = true)
    (bF25 : PySem.W.findIn K (.ref CF) "__getattribute__" = some (some (.builtin "BaseException.__getattribute__")))
    (bF26 : PySem.W.findIn K (.ref CF) "__getattr__" = some none)
    (bF27 : PySem.W.findIn K (.ref CF) "place" = some none)
    (bZ1 : PySem.W.findIn K (.ref CZ) "__init__" = some (some (.ref fZ)))
    (bZ2 : PySem.W.excInitIn K CZ excB "Exception.__new__" = true)
    (bZ3 : PySem.W.excOver K CZ excB = true)
    (bZ4 : PySem.W.isFn K (.ref fZ) = true)
    (bZ5 : K.lookup fZ = some ⟨ocZ, odZ, .func (PySem.W.ksFn "__init__" "OtherSize.__init__" parZ (exzBody "other size: " jZ pZ0 pZ1 pZ2 pZ3 pZ4 pZ5 pZ6 pZ7 pZ8 pZ9 pZ10 pZ11 pZ12) exzScope dVZ kVZ docZ pmZ anZ (.ref cdaZ) ctZ ccZ), slZ⟩)
    (bZ6 : PySem.W.codeIn K (.ref cdaZ) "OtherSize.__init__" = true)
    (bZ7 : ∀ u v : Value, bindArgs (PySem.W.ksFn "__init__" "OtherSize.__init__" parZ (exzBody "other size: " jZ pZ0 pZ1 pZ2 pZ3 pZ4 pZ5 pZ6 pZ7 pZ8 pZ9 pZ10 pZ11 pZ12) exzScope dVZ kVZ docZ pmZ anZ (.ref cdaZ) ctZ ccZ) ⟨[u, v], []⟩ = (pure [(("self" : Str), u), (("size" : Str), v)] : Sem (List (Str × Value))))
    (bZ8 : (parZ.posonlyargs ++ parZ.args).head? = some arZ)
    (bZ9 : arZ.arg = "self")
    (bZ10 : K.lookup cdaZ = some ⟨cclZ, cddZ, .fields vsZ, ccsZ⟩)
    (bZ11 : vsZ[2]? = some (.str fileZ tfZ))
    (bZ12 : ((P.main.file : Str) == fileZ) = true)
    (bZ13 : K.lookup ccZ = some ⟨clZ, cldZ, .cell (some (.ref CZ)), cslZ⟩)
    (bZC : ∀ L : Addr, ∃ pl : Sem Bool, eval (.Call (.Attribute (.Call (.Name "super" pZ0) [] [] pZ1) "__init__" pZ2) [.JoinedStr [.Constant (.str "other size: ") jZ pZ3, .FormattedValue (.Name "size" pZ4) (-1) none pZ5] pZ6] [] pZ7) (PySem.W.ksEnv "OtherSize.__init__" exzScope L fZ (.ref cdaZ) ccZ) = (do let ov ← attributeBase (.Call (.Name "super" pZ0) [] [] pZ1) "__init__" (PySem.W.ksEnv "OtherSize.__init__" exzScope L fZ (.ref cdaZ) ccZ) (eval (.Call (.Name "super" pZ0) [] [] pZ1) (PySem.W.ksEnv "OtherSize.__init__" exzScope L fZ (.ref cdaZ) ccZ)); standAt pZ2.atName; let (fm, first) ← holding [ov] (getMethod ov "__init__" pl); callWith pZ7 fm first (backTo pZ7 (starEach [.JoinedStr [.Constant (.str "other size: ") jZ pZ3, .FormattedValue (.Name "size" pZ4) (-1) none pZ5] pZ6] (PySem.W.ksEnv "OtherSize.__init__" exzScope L fZ (.ref cdaZ) ccZ))) []))
    (bZ14 : PySem.W.ks_superIn K CZ CZ "__init__" = some (some (.builtin "Exception.__init__")))
    (bZ16 : PySem.W.subIn K (.ref CZ) (.type "Exception") = some true)
    (bZ17 : PySem.W.mroIn K CZ (.ref CZ) = some true)
    (bZ18 : PySem.W.findIn K (.ref CZ) "__setattr__" = some (some (.builtin "object.__setattr__")))
    (bZ19 : PySem.W.takerIn K CZ "size" = some none)
    (bZ20 : PySem.W.hasDictIn K CZ = true)
    (bZ21 : PySem.W.subIn K (.ref CZ) (.type "BaseException") = some true)
    (bZ22 : PySem.W.typeIn K (.ref CZ) = some (.type "type"))
    (bZ23 : PySem.W.keepIn K (.ref CZ) = true)
    (bZ25 : PySem.W.findIn K (.ref CZ) "__getattribute__" = some (some (.builtin "BaseException.__getattribute__")))
    (bZ26 : PySem.W.findIn K (.ref CZ) "__getattr__" = some none)
    (bZ27 : PySem.W.findIn K (.ref CZ) "size" = some none)
    (bT1 : PySem.W.findIn K (.ref CT) "__init__" = some (some (.ref fT)))
    (bT2 : PySem.W.excInitIn K CT excB "Exception.__new__" = true)
    (bT3 : PySem.W.excOver K CT excB = true)
    (bT4 : PySem.W.isFn K (.ref fT) = true)
    (bT5 : K.lookup fT = some ⟨ocT, odT, .func (PySem.W.ksFn "__init__" "BadThing.__init__" parT (extBody "bad thing" jT pT0 pT1 pT2 pT3 (⟨0, 0, 0, 0⟩ : Pos) (⟨0, 0, 0, 0⟩ : Pos) (⟨0, 0, 0, 0⟩ : Pos) pT7 pT8 pT9 pT10 pT11 pT12) extScope dVT kVT docT pmT anT (.ref cdaT) ctT ccT), slT⟩)
    (bT6 : PySem.W.codeIn K (.ref cdaT) "BadThing.__init__" = true)
    (bT7 : ∀ u v : Value, bindArgs (PySem.W.ksFn "__init__" "BadThing.__init__" parT (extBody "bad thing" jT pT0 pT1 pT2 pT3 (⟨0, 0, 0, 0⟩ : Pos) (⟨0, 0, 0, 0⟩ : Pos) (⟨0, 0, 0, 0⟩ : Pos) pT7 pT8 pT9 pT10 pT11 pT12) extScope dVT kVT docT pmT anT (.ref cdaT) ctT ccT) ⟨[u, v], []⟩ = (pure [(("self" : Str), u), (("thing" : Str), v)] : Sem (List (Str × Value))))
    (bT8 : (parT.posonlyargs ++ parT.args).head? = some arT)
    (bT9 : arT.arg = "self")
    (bT10 : K.lookup cdaT = some ⟨cclT, cddT, .fields vsT, ccsT⟩)
    (bT11 : vsT[2]? = some (.str fileT tfT))
    (bT12 : ((P.main.file : Str) == fileT) = true)
    (bT13 : K.lookup ccT = some ⟨clT, cldT, .cell (some (.ref CT)), cslT⟩)
    (bTC : ∀ L : Addr, ∃ pl : Sem Bool, eval (.Call (.Attribute (.Call (.Name "super" pT0) [] [] pT1) "__init__" pT2) [.Constant (.str "bad thing") jT pT3] [] pT7) (PySem.W.ksEnv "BadThing.__init__" extScope L fT (.ref cdaT) ccT) = (do let ov ← attributeBase (.Call (.Name "super" pT0) [] [] pT1) "__init__" (PySem.W.ksEnv "BadThing.__init__" extScope L fT (.ref cdaT) ccT) (eval (.Call (.Name "super" pT0) [] [] pT1) (PySem.W.ksEnv "BadThing.__init__" extScope L fT (.ref cdaT) ccT)); standAt pT2.atName; let (fm, first) ← holding [ov] (getMethod ov "__init__" pl); callWith pT7 fm first (backTo pT7 (starEach [.Constant (.str "bad thing") jT pT3] (PySem.W.ksEnv "BadThing.__init__" extScope L fT (.ref cdaT) ccT))) []))
    (bT14 : PySem.W.ks_superIn K CT CT "__init__" = some (some (.builtin "Exception.__init__")))
    (bT16 : PySem.W.subIn K (.ref CT) (.type "Exception") = some true)
    (bT17 : PySem.W.mroIn K CT (.ref CT) = some true)
    (bT18 : PySem.W.findIn K (.ref CT) "__setattr__" = some (some (.builtin "object.__setattr__")))
    (bT19 : PySem.W.takerIn K CT "thing" = some none)
    (bT20 : PySem.W.hasDictIn K CT = true)
    (bT21 : PySem.W.subIn K (.ref CT) (.type "BaseException") = some true)
    (bT22 : PySem.W.typeIn K (.ref CT) = some (.type "type"))
    (bT23 : PySem.W.keepIn K (.ref CT) = true)
    (bT25 : PySem.W.findIn K (.ref CT) "__getattribute__" = some (some (.builtin "BaseException.__getattribute__")))
    (bT26 : PySem.W.findIn K (.ref CT) "__getattr__" = some none)
    (bT27 : PySem.W.findIn K (.ref CT) "thing" = some none)
    (bL1 : PySem.W.findIn K (.ref CL) "__init__" = some (some (.ref fL)))
    (bL2 : PySem.W.excInitIn K CL excB "Exception.__new__" = true)
    (bL3 : PySem.W.excOver K CL excB = true)
    (bL4 : PySem.W.isFn K (.ref fL) = true)
    (bL5 : K.lookup fL = some ⟨ocL, odL, .func (PySem.W.ksFn "__init__" "Lost.__init__" parL (exlBody "lost: thing " " can not be " jL j2L pL0 pL1 pL2 pL3 pL4 pL5 pL6 pL7 pL8 pL9 pL10 pL11 pL12 pL13 pL14 pL15 pL16 pL17 pL18 pL19) exlScope dVL kVL docL pmL anL (.ref cdaL) ctL ccL), slL⟩)
    (bL6 : PySem.W.codeIn K (.ref cdaL) "Lost.__init__" = true)
    (bL7 : ∀ u v v2 : Value, bindArgs (PySem.W.ksFn "__init__" "Lost.__init__" parL (exlBody "lost: thing " " can not be " jL j2L pL0 pL1 pL2 pL3 pL4 pL5 pL6 pL7 pL8 pL9 pL10 pL11 pL12 pL13 pL14 pL15 pL16 pL17 pL18 pL19) exlScope dVL kVL docL pmL anL (.ref cdaL) ctL ccL) ⟨[u, v, v2], []⟩ = (pure [(("self" : Str), u), (("thing" : Str), v), (("word" : Str), v2)] : Sem (List (Str × Value))))
    (bL8 : (parL.posonlyargs ++ parL.args).head? = some arL)
    (bL9 : arL.arg = "self")
    (bL10 : K.lookup cdaL = some ⟨cclL, cddL, .fields vsL, ccsL⟩)
    (bL11 : vsL[2]? = some (.str fileL tfL))
    (bL12 : ((P.main.file : Str) == fileL) = true)
    (bL13 : K.lookup ccL = some ⟨clL, cldL, .cell (some (.ref CL)), cslL⟩)
    (bLC : ∀ L : Addr, ∃ pl : Sem Bool, eval (.Call (.Attribute (.Call (.Name "super" pL0) [] [] pL1) "__init__" pL2) [.JoinedStr [.Constant (.str "lost: thing ") jL pL3, .FormattedValue (.Name "thing" pL4) (-1) none pL5, .Constant (.str " can not be ") j2L pL13, .FormattedValue (.Name "word" pL14) (-1) none pL15] pL6] [] pL7) (PySem.W.ksEnv "Lost.__init__" exlScope L fL (.ref cdaL) ccL) = (do let ov ← attributeBase (.Call (.Name "super" pL0) [] [] pL1) "__init__" (PySem.W.ksEnv "Lost.__init__" exlScope L fL (.ref cdaL) ccL) (eval (.Call (.Name "super" pL0) [] [] pL1) (PySem.W.ksEnv "Lost.__init__" exlScope L fL (.ref cdaL) ccL)); standAt pL2.atName; let (fm, first) ← holding [ov] (getMethod ov "__init__" pl); callWith pL7 fm first (backTo pL7 (starEach [.JoinedStr [.Constant (.str "lost: thing ") jL pL3, .FormattedValue (.Name "thing" pL4) (-1) none pL5, .Constant (.str " can not be ") j2L pL13, .FormattedValue (.Name "word" pL14) (-1) none pL15] pL6] (PySem.W.ksEnv "Lost.__init__" exlScope L fL (.ref cdaL) ccL))) []))
    (bL14 : PySem.W.ks_superIn K CL CL "__init__" = some (some (.builtin "Exception.__init__")))
    (bL16 : PySem.W.subIn K (.ref CL) (.type "Exception") = some true)
    (bL17 : PySem.W.mroIn K CL (.ref CL) = some true)
    (bL18 : PySem.W.findIn K (.ref CL) "__setattr__" = some (some (.builtin "object.__setattr__")))
    (bL19 : PySem.W.takerIn K CL "thing" = some none)
    (bL19b : PySem.W.takerIn K CL "word" = some none)
    (bL20 : PySem.W.hasDictIn K CL = true)
    (bL21 : PySem.W.subIn K (.ref CL) (.type "BaseException") = some true)
    (bL22 : PySem.W.typeIn K (.ref CL) = some (.type "type"))
    (bL23 : PySem.W.keepIn K (.ref CL) = true)
    (bL25 : PySem.W.findIn K (.ref CL) "__getattribute__" = some (some (.builtin "BaseException.__getattribute__")))
    (bL26 : PySem.W.findIn K (.ref CL) "__getattr__" = some none)
    (bL27 : PySem.W.findIn K (.ref CL) "thing" = some none)
    (bL28 : PySem.W.findIn K (.ref CL) "word" = some none)
    (nNF : PySem.W.mroIn K CN (.ref CF) = some false)
    (nNZ : PySem.W.mroIn K CN (.ref CZ) = some false)
    (nZF : PySem.W.mroIn K CZ (.ref CF) = some false)
    (nTF : PySem.W.mroIn K CT (.ref CF) = some false)
    (z_len : PySem.W.nsIn K mainGlobals "len" = some none)
    (z_sum : PySem.W.nsIn K mainGlobals "sum" = some none)
    (z_all : PySem.W.nsIn K mainGlobals "all" = some none)
    (z_any : PySem.W.nsIn K mainGlobals "any" = some none)
    (z_sorted : PySem.W.nsIn K mainGlobals "sorted" = some none)
    (z_tuple : PySem.W.nsIn K mainGlobals "tuple" = some none)
    (z_list : PySem.W.nsIn K mainGlobals "list" = some none)
    (z_int : PySem.W.nsIn K mainGlobals "int" = some none)
    (z_bool : PySem.W.nsIn K mainGlobals "bool" = some none)
    (z_range : PySem.W.nsIn K mainGlobals "range" = some none)
    (z_isinstance : PySem.W.nsIn K mainGlobals "isinstance" = some none)
    (z_min : PySem.W.nsIn K mainGlobals "min" = some none)
    (z_max : PySem.W.nsIn K mainGlobals "max" = some none)
    : ∃ fd : FuncData, (∀ (s : Shared) (v : Value), BindsTo s fd ⟨[v], []⟩ [("_law_script", v)]) ∧ ∀ base : Heap, K.In base → base.Ns mainGlobals mg → FnOk P w K mg base CX0 11 fa fd ["_law_script"] (Pure K p_law) := by
  have e := hfa.symm.trans (PySem.W.mg_of X G a_law)
  cases e
  refine ⟨PySem.W.fnOf "law" "law" (defArgs s_law) (defBody s_law) (defScope s_law) .none kV_law dc_law pm_law an_law cd_law ct_law, fun s v => .of_eq rfl, fun base _ _ => ?_⟩
  have T : Txt mg := ⟨PySem.W.mg_none_of X G z_len, PySem.W.mg_none_of X G z_sum, PySem.W.mg_none_of X G z_all, PySem.W.mg_none_of X G z_any, PySem.W.mg_none_of X G z_sorted, PySem.W.mg_none_of X G z_tuple, PySem.W.mg_none_of X G z_list, PySem.W.mg_none_of X G z_int, PySem.W.mg_none_of X G z_bool, PySem.W.mg_none_of X G z_range, PySem.W.mg_none_of X G z_isinstance, PySem.W.mg_none_of X G z_min, PySem.W.mg_none_of X G z_max⟩
  have cl : Cls K C := ⟨pg, hd, po, sa⟩
  have fc : FamC K mg C := ⟨⟨cl, oc1, oc2, oc3, oc4⟩, nT, nL, PySem.W.mg_of X G aC⟩
  have ni : NotI K C := ⟨hd, tyC⟩
  have hnf := nf
  have hM := PySem.W.mg_of X G aM
  have hT := PySem.W.mg_of X G aT
  have zs := PySem.W.mg_none_of X G zsuper
  have xcB : ExcK K P CB fB "bad set: place " := ⟨bB1, bB2, bB3, bB4, ⟨_, _, _, _, _, _, _, _, _, _, _, _, _, _, _, _, _, _, _, _, _, _, _, _, _, _, _, _, bB5, bB6, bB7, bB8, bB9, ⟨_, _, _, _, _, _, bB10, bB11, bB12⟩, bBC, _, _, _, bB13⟩, bB14, any, bB16, bB17, bB18, bB19, bB20, bB21, bB22, bB23, topsup⟩
  have bc : BadC P K mg CB fB := ⟨xcB, PySem.W.mg_of X G aBx, zs⟩
  have xcN : ExcS K P CN fN "bad number: " := ⟨bN1, bN2, bN3, bN4, ⟨_, _, _, _, _, _, _, _, _, _, _, _, _, _, _, _, _, _, _, _, _, _, _, _, _, _, _, _, bN5, bN6, bN7, bN8, bN9, ⟨_, _, _, _, _, _, bN10, bN11, bN12⟩, bNC, _, _, _, bN13⟩, bN14, any, bN16, bN17, bN18, bN19, bN20, bN21, bN22, bN23, topsup⟩
  have xN : XcS P K mg "BadNumber" "bad number: " CN fN := ⟨xcN, PySem.W.mg_of X G aNx, zs⟩
  have xfN : XfC K CN := ⟨bN25, bN26, bN21, bN20⟩
  have npN := bN27
  have xcF : ExcK K P CF fF "bad family: place " := ⟨bF1, bF2, bF3, bF4, ⟨_, _, _, _, _, _, _, _, _, _, _, _, _, _, _, _, _, _, _, _, _, _, _, _, _, _, _, _, bF5, bF6, bF7, bF8, bF9, ⟨_, _, _, _, _, _, bF10, bF11, bF12⟩, bFC, _, _, _, bF13⟩, bF14, any, bF16, bF17, bF18, bF19, bF20, bF21, bF22, bF23, topsup⟩
  have xF : XcK P K mg "BadFamily" "bad family: place " CF fF := ⟨xcF, PySem.W.mg_of X G aFx, zs⟩
  have xfF : XfC K CF := ⟨bF25, bF26, bF21, bF20⟩
  have npF := bF27
  have xcZ : ExcZ K P CZ fZ "other size: " := ⟨bZ1, bZ2, bZ3, bZ4, ⟨_, _, _, _, _, _, _, _, _, _, _, _, _, _, _, _, _, _, _, _, _, _, _, _, _, _, _, _, bZ5, bZ6, bZ7, bZ8, bZ9, ⟨_, _, _, _, _, _, bZ10, bZ11, bZ12⟩, bZC, _, _, _, bZ13⟩, bZ14, any, bZ16, bZ17, bZ18, bZ19, bZ20, bZ21, bZ22, bZ23, topsup⟩
  have xZ : XcZ P K mg "OtherSize" "other size: " CZ fZ := ⟨xcZ, PySem.W.mg_of X G aZx, zs⟩
  have xfZ : XfC K CZ := ⟨bZ25, bZ26, bZ21, bZ20⟩
  have npZ := bZ27
  have xcT : ExcT K P CT fT "bad thing" := ⟨bT1, bT2, bT3, bT4, ⟨_, _, _, _, _, _, _, _, _, _, _, _, _, _, _, _, _, _, _, _, _, _, _, _, _, _, _, _, bT5, bT6, bT7, bT8, bT9, ⟨_, _, _, _, _, _, bT10, bT11, bT12⟩, bTC, _, _, _, bT13⟩, bT14, any, bT16, bT17, bT18, bT19, bT20, bT21, bT22, bT23, topsup⟩
  have xT : XcT P K mg "BadThing" "bad thing" CT fT := ⟨xcT, PySem.W.mg_of X G aTx, zs⟩
  have xfT : XfC K CT := ⟨bT25, bT26, bT21, bT20⟩
  have npT := bT27
  have xcL : ExcL K P CL fL "lost: thing " " can not be " := ⟨bL1, bL2, bL3, bL4, ⟨_, _, _, _, _, _, _, _, _, _, _, _, _, _, _, _, _, _, _, _, _, _, _, _, _, _, _, _, _, _, _, _, _, _, _, _, bL5, bL6, bL7, bL8, bL9, ⟨_, _, _, _, _, _, bL10, bL11, bL12⟩, bLC, _, _, _, bL13⟩, bL14, any, bL16, bL17, bL18, bL19, bL19b, bL20, bL21, bL22, bL23, topsup⟩
  have xL : XcL P K mg "Lost" "lost: thing " " can not be " CL fL := ⟨xcL, PySem.W.mg_of X G aLx, zs⟩
  have xfL : XfC K CL := ⟨bL25, bL26, bL21, bL20⟩
  have npL := bL27
  have npL2 := bL28
  have F_mask_of := fun_mk (st := s_mask_of) l_mask_of c_mask_of k_mask_of
  have y_mask_of := F_mask_of.binds (ps := ["things"]) fun _ _ _ _ _ _ us hl => match us, hl with | [_], _ => rfl
  have F_things_of := fun_mk (st := s_things_of) l_things_of c_things_of k_things_of
  have y_things_of := F_things_of.binds (ps := ["mask"]) fun _ _ _ _ _ _ us hl => match us, hl with | [_], _ => rfl
  have F_least_masks := fun_mk (st := s_least_masks) l_least_masks c_least_masks k_least_masks
  have y_least_masks := F_least_masks.binds (ps := ["masks"]) fun _ _ _ _ _ _ us hl => match us, hl with | [_], _ => rfl
  have F_lots_of_masks := fun_mk (st := s_lots_of_masks) l_lots_of_masks c_lots_of_masks k_lots_of_masks
  have y_lots_of_masks := F_lots_of_masks.binds (ps := ["masks"]) fun _ _ _ _ _ _ us hl => match us, hl with | [_], _ => rfl
  have F_least_lots := fun_mk (st := s_least_lots) l_least_lots c_least_lots k_least_lots
  have y_least_lots := F_least_lots.binds (ps := ["lots"]) fun _ _ _ _ _ _ us hl => match us, hl with | [_], _ => rfl
  have F_blocker_lots := fun_mk (st := s_blocker_lots) l_blocker_lots c_blocker_lots k_blocker_lots
  have y_blocker_lots := F_blocker_lots.binds (ps := ["lots"]) fun _ _ _ _ _ _ us hl => match us, hl with | [_], _ => rfl
  have F_law_inside := fun_mk (st := s_law_inside) l_law_inside c_law_inside k_law_inside
  have y_law_inside := F_law_inside.binds (ps := ["_law_one", "_law_other"]) fun _ _ _ _ _ _ us hl => match us, hl with | [_, _], _ => rfl
  have F_law_common := fun_mk (st := s_law_common) l_law_common c_law_common k_law_common
  have y_law_common := F_law_common.binds (ps := ["_law_one", "_law_other"]) fun _ _ _ _ _ _ us hl => match us, hl with | [_, _], _ => rfl
  have F_law_subsets := fun_mk (st := s_law_subsets) l_law_subsets c_law_subsets k_law_subsets
  have y_law_subsets := F_law_subsets.binds (ps := ["_law_size"]) fun _ _ _ _ _ _ us hl => match us, hl with | [_], _ => rfl
  have F_law_least := fun_mk (st := s_law_least) l_law_least c_law_least k_law_least
  have y_law_least := F_law_least.binds (ps := ["_law_lots"]) fun _ _ _ _ _ _ us hl => match us, hl with | [_], _ => rfl
  have F_law_meets := fun_mk (st := s_law_meets) l_law_meets c_law_meets k_law_meets
  have y_law_meets := F_law_meets.binds (ps := ["_law_lots", "_law_those"]) fun _ _ _ _ _ _ us hl => match us, hl with | [_, _], _ => rfl
  have F_law_blocker := fun_mk (st := s_law_blocker) l_law_blocker c_law_blocker k_law_blocker
  have y_law_blocker := F_law_blocker.binds (ps := ["_law_size", "_law_lots"]) fun _ _ _ _ _ _ us hl => match us, hl with | [_, _], _ => rfl
  have F_law_sized := fun_mk (st := s_law_sized) l_law_sized c_law_sized k_law_sized
  have y_law_sized := F_law_sized.binds (ps := ["_law_size", "_law_number"]) fun _ _ _ _ _ _ us hl => match us, hl with | [_, _], _ => rfl
  have F_law_fan := fun_mk (st := s_law_fan) l_law_fan c_law_fan k_law_fan
  have y_law_fan := F_law_fan.binds (ps := ["_law_size"]) fun _ _ _ _ _ _ us hl => match us, hl with | [_], _ => rfl
  have F_is_integer := fun_mk (st := s_is_integer) l_is_integer c_is_integer k_is_integer
  have y_is_integer := F_is_integer.binds (ps := ["value", "low"]) fun _ _ _ _ _ _ us hl => match us, hl with | [_, _], _ => rfl
  have F_ask_size := fun_mk (st := s_ask_size) l_ask_size c_ask_size k_ask_size
  have y_ask_size := F_ask_size.binds (ps := ["size"]) fun _ _ _ _ _ _ us hl => match us, hl with | [_], _ => rfl
  have F_is_thing := fun_mk (st := s_is_thing) l_is_thing c_is_thing k_is_thing
  have y_is_thing := F_is_thing.binds (ps := ["value", "size"]) fun _ _ _ _ _ _ us hl => match us, hl with | [_, _], _ => rfl
  have F_set_of := fun_mk (st := s_set_of) l_set_of c_set_of k_set_of
  have y_set_of := F_set_of.binds (ps := ["things", "size"]) fun _ _ _ _ _ _ us hl => match us, hl with | [_, _], _ => rfl
  have F_ask_things := fun_mk (st := s_ask_things) l_ask_things c_ask_things k_ask_things
  have y_ask_things := F_ask_things.binds (ps := ["things"]) fun _ _ _ _ _ _ us hl => match us, hl with | [_], _ => rfl
  have F_checked_lot := fun_mk (st := s_checked_lot) l_checked_lot c_checked_lot k_checked_lot
  have y_checked_lot := F_checked_lot.binds (ps := ["lot", "place", "things"]) fun _ _ _ _ _ _ us hl => match us, hl with | [_, _, _], _ => rfl
  have F_Minit := fun_mk (st := s_Family_init) l_Minit c_Minit k_Minit
  have y_Minit := F_Minit.binds (ps := ["self", "things", "lots"]) fun _ _ _ _ _ _ us hl => match us, hl with | [_, _, _], _ => rfl
  have F_Meq := fun_mk (st := s_Family_eq) l_Meq c_Meq k_Meq
  have y_Meq := F_Meq.binds (ps := ["self", "other"]) fun _ _ _ _ _ _ us hl => match us, hl with | [_, _], _ => rfl
  have F_Minvert := fun_mk (st := s_Family_invert) l_Minvert c_Minvert k_Minvert
  have y_Minvert := F_Minvert.binds (ps := ["self"]) fun _ _ _ _ _ _ us hl => match us, hl with | [_], _ => rfl
  have F_Mholds := fun_mk (st := s_Family_holds) l_Mholds c_Mholds k_Mholds
  have y_Mholds := F_Mholds.binds (ps := ["self", "things"]) fun _ _ _ _ _ _ us hl => match us, hl with | [_, _], _ => rfl
  have F_law_pick := fun_mk (st := s_law_pick) l_law_pick c_law_pick k_law_pick
  have y_law_pick := F_law_pick.binds (ps := ["_law_draws_here", "_law_bound"]) fun _ _ _ _ _ _ us hl => match us, hl with | [_, _], _ => rfl
  have F_law_chosen := fun_mk (st := s_law_chosen) l_law_chosen c_law_chosen k_law_chosen
  have y_law_chosen := F_law_chosen.binds (ps := ["_law_draws_here", "_law_pool", "_law_least_here"]) fun _ _ _ _ _ _ us hl => match us, hl with | [_, _, _], _ => rfl
  have F_law_mixed_lots := fun_mk (st := s_law_mixed_lots) l_law_mixed_lots c_law_mixed_lots k_law_mixed_lots
  have y_law_mixed_lots := F_law_mixed_lots.binds (ps := ["_law_draws_here", "_law_size"]) fun _ _ _ _ _ _ us hl => match us, hl with | [_, _], _ => rfl
  have F_law_draws := fun_mk (st := s_law_draws) l_law_draws c_law_draws k_law_draws
  have y_law_draws := F_law_draws.binds (ps := ["_law_script"]) fun _ _ _ _ _ _ us hl => match us, hl with | [_], _ => rfl
  have F_lots_put := fun_mk (st := s_lots_put) l_lots_put c_lots_put k_lots_put
  have y_lots_put := F_lots_put.binds (ps := ["lots", "shares"]) fun _ _ _ _ _ _ us hl => match us, hl with | [_, _], _ => rfl
  have F_family_list := fun_mk (st := s_family_list) l_family_list c_family_list k_family_list
  have y_family_list := F_family_list.binds (ps := ["families"]) fun _ _ _ _ _ _ us hl => match us, hl with | [_], _ => rfl
  have F_starts_of := fun_mk (st := s_starts_of) l_starts_of c_starts_of k_starts_of
  have y_starts_of := F_starts_of.binds (ps := ["families"]) fun _ _ _ _ _ _ us hl => match us, hl with | [_], _ => rfl
  have F_ask_thing := fun_mk (st := s_ask_thing) l_ask_thing c_ask_thing k_ask_thing
  have y_ask_thing := F_ask_thing.binds (ps := ["thing", "size"]) fun _ _ _ _ _ _ us hl => match us, hl with | [_, _], _ => rfl
  have F_lots_without := fun_mk (st := s_lots_without) l_lots_without c_lots_without k_lots_without
  have y_lots_without := F_lots_without.binds (ps := ["lots", "things"]) fun _ _ _ _ _ _ us hl => match us, hl with | [_, _], _ => rfl
  have F_lots_held := fun_mk (st := s_lots_held) l_lots_held c_lots_held k_lots_held
  have y_lots_held := F_lots_held.binds (ps := ["lots", "things"]) fun _ _ _ _ _ _ us hl => match us, hl with | [_, _], _ => rfl
  have F_Msingle := fun_mk (st := s_Family_single) l_Msingle c_Msingle k_Msingle
  have y_Msingle := F_Msingle.binds (ps := ["cls"]) fun _ _ _ _ _ _ us hl => match us, hl with | [_], _ => rfl
  have F_Msub := fun_mk (st := s_Family_sub) l_Msub c_Msub k_Msub
  have y_Msub := F_Msub.binds (ps := ["self", "thing"]) fun _ _ _ _ _ _ us hl => match us, hl with | [_, _], _ => rfl
  have F_Mfloordiv := fun_mk (st := s_Family_floordiv) l_Mfloordiv c_Mfloordiv k_Mfloordiv
  have y_Mfloordiv := F_Mfloordiv.binds (ps := ["self", "thing"]) fun _ _ _ _ _ _ us hl => match us, hl with | [_, _], _ => rfl
  have F_families_for := fun_mk (st := s_families_for) l_families_for c_families_for k_families_for
  have y_families_for := F_families_for.binds (ps := ["family", "families"]) fun _ _ _ _ _ _ us hl => match us, hl with | [_, _], _ => rfl
  have F_Mcall := fun_mk (st := s_Family_call) l_Mcall c_Mcall k_Mcall
  have y_Mcall := F_Mcall.binds (ps := ["self", "families"]) fun _ _ _ _ _ _ us hl => match us, hl with | [_, _], _ => rfl
  have F_put_in := fun_mk (st := s_put_in) l_put_in c_put_in k_put_in
  have y_put_in := F_put_in.binds (ps := ["family", "families"]) fun _ _ _ _ _ _ us hl => match us, hl with | [_, _], _ => rfl
  have F_place_of := fun_mk (st := s_place_of) l_place_of c_place_of k_place_of
  have y_place_of := F_place_of.binds (ps := ["families", "e", "f"]) fun _ _ _ _ _ _ us hl => match us, hl with | [_, _, _], _ => rfl
  have F_law_holds := fun_mk (st := s_law_holds) l_law_holds c_law_holds k_law_holds
  have y_law_holds := F_law_holds.binds (ps := ["_law_lots", "_law_those"]) fun _ _ _ _ _ _ us hl => match us, hl with | [_, _], _ => rfl
  have F_law_small := fun_mk (st := s_law_small) l_law_small c_law_small k_law_small
  have y_law_small := F_law_small.binds (ps := ["_law_draws_here"]) fun _ _ _ _ _ _ us hl => match us, hl with | [_], _ => rfl
  have F_law_starts := fun_mk (st := s_law_starts) l_law_starts c_law_starts k_law_starts
  have y_law_starts := F_law_starts.binds (ps := ["_law_rows"]) fun _ _ _ _ _ _ us hl => match us, hl with | [_], _ => rfl
  have F_law_put_lots := fun_mk (st := s_law_put_lots) l_law_put_lots c_law_put_lots k_law_put_lots
  have y_law_put_lots := F_law_put_lots.binds (ps := ["_law_lots", "_law_rows"]) fun _ _ _ _ _ _ us hl => match us, hl with | [_, _], _ => rfl
  have F_law_share_holds := fun_mk (st := s_law_share_holds) l_law_share_holds c_law_share_holds k_law_share_holds
  have y_law_share_holds := F_law_share_holds.binds (ps := ["_law_rows", "_law_starts_here", "_law_thing", "_law_those"]) fun _ _ _ _ _ _ us hl => match us, hl with | [_, _, _, _], _ => rfl
  have F_law_held_sets := fun_mk (st := s_law_held_sets) l_law_held_sets c_law_held_sets k_law_held_sets
  have y_law_held_sets := F_law_held_sets.binds (ps := ["_law_draws_here", "_law_fam", "_law_lots", "_law_rows"]) fun _ _ _ _ _ _ us hl => match us, hl with | [_, _, _, _], _ => rfl
  have F_law_step := fun_mk (st := s_law_step) l_law_step c_law_step k_law_step
  have y_law_step := F_law_step.binds (ps := ["_law_fam", "_law_thing", "_law_word"]) fun _ _ _ _ _ _ us hl => match us, hl with | [_, _, _], _ => rfl
  have F_law_put_word := fun_mk (st := s_law_put_word) l_law_put_word c_law_put_word k_law_put_word
  have y_law_put_word := F_law_put_word.binds (ps := ["_law_outer", "_law_families", "_law_way"]) fun _ _ _ _ _ _ us hl => match us, hl with | [_, _, _], _ => rfl
  have F_law_place_word := fun_mk (st := s_law_place_word) l_law_place_word c_law_place_word k_law_place_word
  have y_law_place_word := F_law_place_word.binds (ps := ["_law_families", "_law_one", "_law_two"]) fun _ _ _ _ _ _ us hl => match us, hl with | [_, _, _], _ => rfl
  have F_law_one_less := fun_mk (st := s_law_one_less) l_law_one_less c_law_one_less k_law_one_less
  have y_law_one_less := F_law_one_less.binds (ps := ["_law_fam", "_law_outer", "_law_inner_here", "_law_thing", "_law_at", "_law_start"]) fun _ _ _ _ _ _ us hl => match us, hl with | [_, _, _, _, _, _], _ => rfl
  have F_law_inner := fun_mk (st := s_law_inner) l_law_inner c_law_inner k_law_inner
  have y_law_inner := F_law_inner.binds (ps := ["_law_draws_here", "_law_size"]) fun _ _ _ _ _ _ us hl => match us, hl with | [_, _], _ => rfl
  have F_law_twice := fun_mk (st := s_law_twice) l_law_twice c_law_twice k_law_twice
  have y_law_twice := F_law_twice.binds (ps := ["_law_draws_here", "_law_outer", "_law_inner_here", "_law_fam"]) fun _ _ _ _ _ _ us hl => match us, hl with | [_, _, _, _], _ => rfl
  have F_law_refusals := fun_mk (st := s_law_refusals) l_law_refusals c_law_refusals k_law_refusals
  have y_law_refusals := F_law_refusals.binds (ps := ["_law_draws_here", "_law_outer", "_law_inner_here"]) fun _ _ _ _ _ _ us hl => match us, hl with | [_, _, _], _ => rfl
  have F_law_int := fun_mk (st := s_law_int) l_law_int c_law_int k_law_int
  have y_law_int := F_law_int.binds (ps := ["_law_value"]) fun _ _ _ _ _ _ us hl => match us, hl with | [_], _ => rfl
  have F_law := fun_mk (st := s_law) l_law c_law k_law
  have y_law := F_law.binds (ps := ["_law_script"]) fun _ _ _ _ _ _ us hl => match us, hl with | [_], _ => rfl
  have o_ok_mask_of := ok_mask_of (P := P) (w := w) (mg := mg) (base := base) F_mask_of T
  have o_ok_things_of := ok_things_of (P := P) (w := w) (mg := mg) (base := base) F_things_of T
  have o_ok_least_masks := ok_least_masks (P := P) (w := w) (mg := mg) (base := base) F_least_masks T
  have d0 : Cl P w K mg base 1 "things_of" (Pure K p_things_of) := ⟨_, _, _, .inl o_ok_things_of, PySem.W.mg_of X G a_things_of, k_things_of, y_things_of⟩
  have o_ok_lots_of_masks := ok_lots_of_masks (P := P) (w := w) (mg := mg) (base := base) F_lots_of_masks T d0
  have d1 : Cl P w K mg base 1 "mask_of" (Pure K p_mask_of) := ⟨_, _, _, .inl o_ok_mask_of, PySem.W.mg_of X G a_mask_of, k_mask_of, y_mask_of⟩
  have d2 : Cl P w K mg base 1 "least_masks" (Fresh K p_least_masks) := ⟨_, _, _, .inl o_ok_least_masks, PySem.W.mg_of X G a_least_masks, k_least_masks, y_least_masks⟩
  have d3 : Cl P w K mg base 2 "lots_of_masks" (Pure K p_lots_of_masks) := ⟨_, _, _, .inl o_ok_lots_of_masks, PySem.W.mg_of X G a_lots_of_masks, k_lots_of_masks, y_lots_of_masks⟩
  have o_ok_least_lots := ok_least_lots (P := P) (w := w) (mg := mg) (base := base) F_least_lots T d1 d2 d3
  have o_ok_blocker_lots := ok_blocker_lots (P := P) (w := w) (mg := mg) (base := base) F_blocker_lots T d1 d3
  have o_ok_law_inside := ok_law_inside (P := P) (w := w) (mg := mg) (base := base) F_law_inside T
  have o_ok_law_common := ok_law_common (P := P) (w := w) (mg := mg) (base := base) F_law_common T
  have o_ok_law_subsets := ok_law_subsets (P := P) (w := w) (mg := mg) (base := base) F_law_subsets T
  have d4 : Cl P w K mg base 1 "_law_inside" (Pure K p_law_inside) := ⟨_, _, _, .inl o_ok_law_inside, PySem.W.mg_of X G a_law_inside, k_law_inside, y_law_inside⟩
  have o_ok_law_least := ok_law_least (P := P) (w := w) (mg := mg) (base := base) F_law_least T d4
  have d5 : Cl P w K mg base 1 "_law_common" (Pure K p_law_common) := ⟨_, _, _, .inl o_ok_law_common, PySem.W.mg_of X G a_law_common, k_law_common, y_law_common⟩
  have o_ok_law_meets := ok_law_meets (P := P) (w := w) (mg := mg) (base := base) F_law_meets T d5
  have d6 : Cl P w K mg base 1 "_law_subsets" (Fresh K p_law_subsets) := ⟨_, _, _, .inl o_ok_law_subsets, PySem.W.mg_of X G a_law_subsets, k_law_subsets, y_law_subsets⟩
  have d7 : Cl P w K mg base 2 "_law_meets" (Pure K p_law_meets) := ⟨_, _, _, .inl o_ok_law_meets, PySem.W.mg_of X G a_law_meets, k_law_meets, y_law_meets⟩
  have o_ok_law_blocker := ok_law_blocker (P := P) (w := w) (mg := mg) (base := base) F_law_blocker T d6 d7
  have o_ok_law_sized := ok_law_sized (P := P) (w := w) (mg := mg) (base := base) F_law_sized T d6
  have o_ok_law_fan := ok_law_fan (P := P) (w := w) (mg := mg) (base := base) F_law_fan T
  have o_ok_is_integer := ok_is_integer (P := P) (w := w) (mg := mg) (base := base) F_is_integer T
  have d8 : Cl P w K mg base 1 "is_integer" (Pure K p_is_integer) := ⟨_, _, _, .inl o_ok_is_integer, PySem.W.mg_of X G a_is_integer, k_is_integer, y_is_integer⟩
  have o_ok_ask_size := ok_ask_size (P := P) (w := w) (mg := mg) (base := base) F_ask_size T d8
  have o_ok_is_thing := ok_is_thing (P := P) (w := w) (mg := mg) (base := base) F_is_thing T d8
  have d9 : Cl P w K mg base 2 "ask_size" (Pure K p_ask_size) := ⟨_, _, _, .inl o_ok_ask_size, PySem.W.mg_of X G a_ask_size, k_ask_size, y_ask_size⟩
  have d10 : Cl P w K mg base 2 "is_thing" (Pure K p_is_thing) := ⟨_, _, _, .inl o_ok_is_thing, PySem.W.mg_of X G a_is_thing, k_is_thing, y_is_thing⟩
  have o_ok_set_of := ok_set_of (P := P) (w := w) (mg := mg) (base := base) F_set_of T bc d9 d10
  have o_ok_ask_things := ok_ask_things (P := P) (w := w) (mg := mg) (base := base) F_ask_things T hM d8
  have d11 : Cl P w K mg base 3 "set_of" (PureX K p_set_of (q_set_of CB)) := ⟨_, _, _, .inr o_ok_set_of, PySem.W.mg_of X G a_set_of, k_set_of, y_set_of⟩
  have o_ok_checked_lot := ok_checked_lot (P := P) (w := w) (mg := mg) (base := base) F_checked_lot T d11
  have d12 : Cl P w K mg base 2 "ask_things" (Pure K p_ask_things) := ⟨_, _, _, .inl o_ok_ask_things, PySem.W.mg_of X G a_ask_things, k_ask_things, y_ask_things⟩
  have d13 : Cl P w K mg base 4 "checked_lot" (Pure K p_checked_lot) := ⟨_, _, _, .inl o_ok_checked_lot, PySem.W.mg_of X G a_checked_lot, k_checked_lot, y_checked_lot⟩
  have d14 : Cl P w K mg base 3 "least_lots" (Pure K p_least_lots) := ⟨_, _, _, .inl o_ok_least_lots, PySem.W.mg_of X G a_least_lots, k_least_lots, y_least_lots⟩
  have o_ok_init := ok_init (P := P) (w := w) (mg := mg) (base := base) F_Minit T fc d12 d13 d14
  have o_ok_eq := ok_eq (P := P) (w := w) (mg := mg) (base := base) F_Meq T fc
  have d15 : ClI P w K mg base 5 C "Family" (InitP K C p_init) := ⟨_, _, _, o_ok_init, ⟨mk, a_Minit, i_Minit, kc⟩, fc.m, y_Minit⟩
  have d16 : Cl P w K mg base 3 "blocker_lots" (Pure K p_blocker_lots) := ⟨_, _, _, .inl o_ok_blocker_lots, PySem.W.mg_of X G a_blocker_lots, k_blocker_lots, y_blocker_lots⟩
  have o_ok_invert := ok_invert (P := P) (w := w) (mg := mg) (base := base) F_Minvert T fc d15 d16
  have d17 : ClX P w K mg base 3 "set_of" (PureX K p_set_of (q_set_of CB)) := ⟨_, _, _, o_ok_set_of, PySem.W.mg_of X G a_set_of, k_set_of, y_set_of⟩
  have o_ok_holds := ok_holds (P := P) (w := w) (mg := mg) (base := base) F_Mholds T fc d1 d17
  have o_ok_law_pick := ok_law_pick (P := P) (w := w) (mg := mg) (base := base) F_law_pick T
  have d18 : Cl P w K mg base 1 "_law_pick" (PickP K) := ⟨_, _, _, .inl o_ok_law_pick, PySem.W.mg_of X G a_law_pick, k_law_pick, y_law_pick⟩
  have o_ok_law_chosen := ok_law_chosen (P := P) (w := w) (mg := mg) (base := base) F_law_chosen T d18
  have d19 : Cl P w K mg base 2 "_law_least" (Fresh K p_law_least) := ⟨_, _, _, .inl o_ok_law_least, PySem.W.mg_of X G a_law_least, k_law_least, y_law_least⟩
  have o_ok_law_mixed := ok_law_mixed (P := P) (w := w) (mg := mg) (base := base) F_law_mixed_lots T d18 d19
  have o_ok_law_draws := ok_law_draws (P := P) (w := w) (mg := mg) (base := base) F_law_draws T
  have o_ok_lots_put := ok_lots_put (P := P) (w := w) (mg := mg) (base := base) F_lots_put T
  have o_ok_family_list := ok_family_list (P := P) (w := w) (mg := mg) (base := base) F_family_list T fc ni xF
  have o_ok_starts_of := ok_starts_of (P := P) (w := w) (mg := mg) (base := base) F_starts_of T fc
  have o_ok_ask_thingsE := ok_ask_thingsE (P := P) (w := w) (mg := mg) (base := base) F_ask_things T hM xN d8
  have o_ok_ask_thing := ok_ask_thing (P := P) (w := w) (mg := mg) (base := base) F_ask_thing T xT d10
  have o_ok_lots_without := ok_lots_without (P := P) (w := w) (mg := mg) (base := base) F_lots_without T d1
  have o_ok_lots_held := ok_lots_held (P := P) (w := w) (mg := mg) (base := base) F_lots_held T d1 d2 d3
  have o_ok_single := ok_single (P := P) (w := w) (mg := mg) (base := base) F_Msingle T fc d15
  have d20 : Cl P w K mg base 3 "ask_thing" (PureE K p_athing (q_athing CT)) := ⟨_, _, _, .inr o_ok_ask_thing, PySem.W.mg_of X G a_ask_thing, k_ask_thing, y_ask_thing⟩
  have d21 : Cl P w K mg base 2 "lots_without" (Pure K p_without) := ⟨_, _, _, .inl o_ok_lots_without, PySem.W.mg_of X G a_lots_without, k_lots_without, y_lots_without⟩
  have o_ok_sub := ok_sub (P := P) (w := w) (mg := mg) (base := base) F_Msub T fc xL d20 d21 d15
  have d22 : Cl P w K mg base 3 "lots_held" (Pure K p_held) := ⟨_, _, _, .inl o_ok_lots_held, PySem.W.mg_of X G a_lots_held, k_lots_held, y_lots_held⟩
  have o_ok_fdiv := ok_fdiv (P := P) (w := w) (mg := mg) (base := base) F_Mfloordiv T fc xL d20 d22 d15
  have d23 : ClX P w K mg base 2 "family_list" (PureE K (p_flist C) (q_flist C CF)) := ⟨_, _, _, o_ok_family_list, PySem.W.mg_of X G a_family_list, k_family_list, y_family_list⟩
  have o_ok_families_forE := ok_families_forE (P := P) (w := w) (mg := mg) (base := base) F_families_for T fc xZ d23
  have d24 : ClX P w K mg base 3 "families_for" (PureE K (p_ffor C) (q_fforE C CF CZ)) := ⟨_, _, _, o_ok_families_forE, PySem.W.mg_of X G a_families_for, k_families_for, y_families_for⟩
  have d25 : ClX P w K mg base 2 "ask_things" (PureE K p_ask_things (q_athings CN)) := ⟨_, _, _, o_ok_ask_thingsE, PySem.W.mg_of X G a_ask_things, k_ask_things, y_ask_things⟩
  have d26 : Cl P w K mg base 1 "starts_of" (Pure K (p_starts C)) := ⟨_, _, _, .inl o_ok_starts_of, PySem.W.mg_of X G a_starts_of, k_starts_of, y_starts_of⟩
  have d27 : Cl P w K mg base 1 "lots_put" (Pure K p_put) := ⟨_, _, _, .inl o_ok_lots_put, PySem.W.mg_of X G a_lots_put, k_lots_put, y_lots_put⟩
  have o_ok_fcallE := ok_fcallE (P := P) (w := w) (mg := mg) (base := base) F_Mcall T fc d24 d25 d26 d15 d27
  have d28 : ClC P w K mg base 7 C (PureE K (p_fcall C) (q_fcallE C CN CF CZ)) := ⟨_, (FnOk.raw o_ok_fcallE y_Mcall .nil).imp (fun vs H Q E h => by rw [List.append_nil]; exact h), ⟨a_Mcall, i_Mcall, fn_Mcall⟩⟩
  have o_ok_put_in := ok_put_in (P := P) (w := w) (mg := mg) (base := base) F_put_in T d28
  have d29 : ClX P w K mg base 3 "ask_thing" (PureE K p_athing (q_athing CT)) := ⟨_, _, _, o_ok_ask_thing, PySem.W.mg_of X G a_ask_thing, k_ask_thing, y_ask_thing⟩
  have o_ok_place_of := ok_place_of (P := P) (w := w) (mg := mg) (base := base) F_place_of T fc d23 d29 d26
  have o_ok_law_insideS := ok_law_insideS (P := P) (w := w) (mg := mg) (base := base) F_law_inside T
  have d30 : Cl P w K mg base 1 "_law_inside" (Pure K p_insideS) := ⟨_, _, _, .inl o_ok_law_insideS, PySem.W.mg_of X G a_law_inside, k_law_inside, y_law_inside⟩
  have o_ok_law_holdsS := ok_law_holdsS (P := P) (w := w) (mg := mg) (base := base) F_law_holds T d30
  have d31 : Cl P w K mg base 2 "_law_sized" (Fresh K p_law_sized) := ⟨_, _, _, .inl o_ok_law_sized, PySem.W.mg_of X G a_law_sized, k_law_sized, y_law_sized⟩
  have d32 : Cl P w K mg base 3 "_law_mixed_lots" (DrawP K ok_mix p_mixed) := ⟨_, _, _, .inl o_ok_law_mixed, PySem.W.mg_of X G a_law_mixed_lots, k_law_mixed_lots, y_law_mixed_lots⟩
  have d33 : Cl P w K mg base 1 "_law_fan" (Fresh K p_law_fan) := ⟨_, _, _, .inl o_ok_law_fan, PySem.W.mg_of X G a_law_fan, k_law_fan, y_law_fan⟩
  have d34 : Cl P w K mg base 2 "_law_chosen" (DrawP K ok_ch p_chosen) := ⟨_, _, _, .inl o_ok_law_chosen, PySem.W.mg_of X G a_law_chosen, k_law_chosen, y_law_chosen⟩
  have o_ok_law_small4A := ok_law_small4A (P := P) (w := w) (mg := mg) (base := base) F_law_small T d18 d31 d32 d33 d34
  have o_ok_law_starts := ok_law_starts (P := P) (w := w) (mg := mg) (base := base) F_law_starts T
  have d35 : Cl P w K mg base 1 "_law_starts" (Fresh K p_lstarts) := ⟨_, _, _, .inl o_ok_law_starts, PySem.W.mg_of X G a_law_starts, k_law_starts, y_law_starts⟩
  have o_ok_law_put_lots := ok_law_put_lots (P := P) (w := w) (mg := mg) (base := base) F_law_put_lots T d35
  have d36 : Cl P w K mg base 2 "_law_holds" (Pure K p_holdsS) := ⟨_, _, _, .inl o_ok_law_holdsS, PySem.W.mg_of X G a_law_holds, k_law_holds, y_law_holds⟩
  have o_ok_law_share_holds := ok_law_share_holds (P := P) (w := w) (mg := mg) (base := base) F_law_share_holds T d36
  have d37 : Cl P w K mg base 3 "_law_share_holds" (Pure K p_lshare) := ⟨_, _, _, .inl o_ok_law_share_holds, PySem.W.mg_of X G a_law_share_holds, k_law_share_holds, y_law_share_holds⟩
  have d38 : ClM P w K mg base 4 C "holds" (PureX K (p_holds C) (q_holds C CB)) := ⟨_, _, _, o_ok_holds, ⟨a_Mholds, i_Mholds, k_Mholds⟩, y_Mholds⟩
  have o_ok_law_held_sets := ok_law_held_sets (P := P) (w := w) (mg := mg) (base := base) F_law_held_sets T fc d18 d35 d37 d38 d36
  have d39 : ClB P w K mg base 7 C .Sub (PureE K (p_sub C) (q_sub C CL)) := ⟨⟨_, _, _, o_ok_sub, a_Msub, i_Msub, y_Msub⟩, ⟨b1_Msub, ⟨_, b2_Msub, .inl rfl⟩, ⟨_, b3_Msub⟩, ⟨_, b4_Msub⟩, b5_Msub⟩⟩
  have d40 : ClB P w K mg base 7 C .FloorDiv (PureE K (p_fdiv C) (q_fdiv C CL)) := ⟨⟨_, _, _, o_ok_fdiv, a_Mfloordiv, i_Mfloordiv, y_Mfloordiv⟩, ⟨b1_Mfloordiv, ⟨_, b2_Mfloordiv, .inl rfl⟩, ⟨_, b3_Mfloordiv⟩, ⟨_, b4_Mfloordiv⟩, b5_Mfloordiv⟩⟩
  have o_ok_law_step := ok_law_step (P := P) (w := w) (mg := mg) (base := base) F_law_step T xL xfL npL npL2 d39 d40
  have d41 : ClX P w K mg base 8 "put_in" (PureE K (p_fcall C) (q_fcallE C CN CF CZ)) := ⟨_, _, _, o_ok_put_in, PySem.W.mg_of X G a_put_in, k_put_in, y_put_in⟩
  have o_ok_law_put_word := ok_law_put_word (P := P) (w := w) (mg := mg) (base := base) F_law_put_word T xF xZ xN hT xfF npF xfZ npZ xfN npN nZF nNF nNZ d41 d28
  have d42 : ClX P w K mg base 4 "place_of" (PureE K (p_place C) (q_place C CF CT)) := ⟨_, _, _, o_ok_place_of, PySem.W.mg_of X G a_place_of, k_place_of, y_place_of⟩
  have o_ok_law_place_word := ok_law_place_word (P := P) (w := w) (mg := mg) (base := base) F_law_place_word T xF xT xfF npF xfT npT nTF d42
  have d43 : Cl P w K mg base 8 "_law_step" (Pure K (p_lstep C)) := ⟨_, _, _, .inl o_ok_law_step, PySem.W.mg_of X G a_law_step, k_law_step, y_law_step⟩
  have d44 : ClO P w K mg base 1 C "__eq__" (Pure K (p_eq C)) := ⟨_, _, _, o_ok_eq, a_Meq, i_Meq, y_Meq⟩
  have o_ok_law_one_less := ok_law_one_less (P := P) (w := w) (mg := mg) (base := base) F_law_one_less T fc ni d43 d28 d44 hnf
  have d45 : Cl P w K mg base 4 "_law_small" (DrawA K p_fam4) := ⟨_, _, _, .inl o_ok_law_small4A, PySem.W.mg_of X G a_law_small, k_law_small, y_law_small⟩
  have o_ok_law_inner := ok_law_inner (P := P) (w := w) (mg := mg) (base := base) F_law_inner T d18 d31 d45
  have d46 : ClK P w K mg base 7 C "single" (Pure K (p_single C)) := ⟨_, _, _, ⟨rd_Msingle, ga_Msingle⟩, ⟨at_Msingle, ⟨_, rc_Msingle⟩, fn_Msingle⟩, (FnOk.raw o_ok_single y_Msingle .nil).imp (fun vs H Q E h => by rw [List.append_nil]; exact h)⟩
  have d47 : Cl P w K mg base 8 "put_in" (PureE K (p_fcall C) (q_fcallE C CN CF CZ)) := ⟨_, _, _, .inr o_ok_put_in, PySem.W.mg_of X G a_put_in, k_put_in, y_put_in⟩
  have o_ok_law_twice := ok_law_twice (P := P) (w := w) (mg := mg) (base := base) F_law_twice T fc d18 d46 d15 d28 d47 d44 hnf
  have d48 : Cl P w K mg base 9 "_law_put_word" (Pure K (p_pword C CN CF CZ)) := ⟨_, _, _, .inl o_ok_law_put_word, PySem.W.mg_of X G a_law_put_word, k_law_put_word, y_law_put_word⟩
  have d49 : Cl P w K mg base 5 "_law_place_word" (Pure K (p_plword C CF CT)) := ⟨_, _, _, .inl o_ok_law_place_word, PySem.W.mg_of X G a_law_place_word, k_law_place_word, y_law_place_word⟩
  have o_ok_law_refusals := ok_law_refusals (P := P) (w := w) (mg := mg) (base := base) F_law_refusals T fc d18 d46 d15 d48 d49
  have o_ok_law_int := ok_law_int (P := P) (w := w) (mg := mg) (base := base) F_law_int T
  have d50 : Cl P w K mg base 1 "_law_draws" (FreshN K ok_draws p_draws) := ⟨_, _, _, .inl o_ok_law_draws, PySem.W.mg_of X G a_law_draws, k_law_draws, y_law_draws⟩
  have d51 : Cl P w K mg base 3 "_law_blocker" (Fresh K p_law_blocker) := ⟨_, _, _, .inl o_ok_law_blocker, PySem.W.mg_of X G a_law_blocker, k_law_blocker, y_law_blocker⟩
  have d52 : Cl P w K mg base 5 "_law_inner" (DrawP K ok_inner p_inner) := ⟨_, _, _, .inl o_ok_law_inner, PySem.W.mg_of X G a_law_inner, k_law_inner, y_law_inner⟩
  have d53 : Cl P w K mg base 2 "_law_put_lots" (Fresh K p_lput) := ⟨_, _, _, .inl o_ok_law_put_lots, PySem.W.mg_of X G a_law_put_lots, k_law_put_lots, y_law_put_lots⟩
  have d54 : ClO P w K mg base 7 C "__invert__" (Pure K (p_invert C)) := ⟨_, _, _, o_ok_invert, a_Minvert, i_Minvert, y_Minvert⟩
  have d55 : Cl P w K mg base 5 "_law_held_sets" (DrawP K (ok_lheld C) p_true) := ⟨_, _, _, .inl o_ok_law_held_sets, PySem.W.mg_of X G a_law_held_sets, k_law_held_sets, y_law_held_sets⟩
  have d56 : Cl P w K mg base 4 "place_of" (PureE K (p_place C) (q_place C CF CT)) := ⟨_, _, _, .inr o_ok_place_of, PySem.W.mg_of X G a_place_of, k_place_of, y_place_of⟩
  have d57 : Cl P w K mg base 1 "_law_int" (Pure K p_lint) := ⟨_, _, _, .inl o_ok_law_int, PySem.W.mg_of X G a_law_int, k_law_int, y_law_int⟩
  have d58 : Cl P w K mg base 9 "_law_one_less" (Pure K (p_less C)) := ⟨_, _, _, .inl o_ok_law_one_less, PySem.W.mg_of X G a_law_one_less, k_law_one_less, y_law_one_less⟩
  have d59 : Cl P w K mg base 9 "_law_twice" (DrawP K (ok_twice C) p_true) := ⟨_, _, _, .inl o_ok_law_twice, PySem.W.mg_of X G a_law_twice, k_law_twice, y_law_twice⟩
  have d60 : Cl P w K mg base 10 "_law_refusals" (DrawZ K (ok_lref K C) p_true) := ⟨_, _, _, .inl o_ok_law_refusals, PySem.W.mg_of X G a_law_refusals, k_law_refusals, y_law_refusals⟩
  exact ok_law F_law T fc d50 d45 d18 d51 d52 d35 d15 d28 d53 d47 d44 hnf d54 d55 d56 d57 d58 d59 d60
theorem walk {l : PySem.W.OpenLaw} {q : Program} {loose : List Str} {XP : (Str → Option Value) → Heap → Prop} {YP : World → Heap → Prop} {d : DefRec} {K : Params → PySem.W.Frag} (hn : l.most = some 63) (hdf : d.params.defaults = [])
    (hY : ∀ (w : World) (h : Heap), YP w h → (K w.params).In h)
    (F : ∀ (w : World) (mg : Str → Option Value) (fa : Addr) (h : Heap), (K w.params).In h → h.Ns mainGlobals mg → mg d.name = some (.ref fa) →
      ∃ fd : FuncData, (∀ (s : Shared) (u : Value), BindsTo s fd ⟨[u], []⟩ [("_law_script", u)]) ∧ ∀ base : Heap, (K w.params).In base → base.Ns mainGlobals mg → FnOk l.prog w (K w.params) mg base CX0 11 fa fd ["_law_script"] (Pure (K w.params) p_law)) :
    PySem.W.WalkO q loose XP YP l.row.toRowW d [] (fun f vs => PySem.call f vs) :=
  L2.walk_of (n := 63) (k := 11) (x := "_law_script") (CX := fun _ => CX0) (sp := fun w => Pure (K w.params) p_law) hn (by decide) hdf ⟨rfl, by decide, by decide⟩ hY F (fun _ _ a ns hl _ hS => ⟨[.lst (ns.map D.int)], .bl true, .one (.lst hS (isAll_ints ns)), ⟨ns, hl, rfl, rfl⟩, fun v H2 _ h2 => by cases h2; rfl⟩) fun _ _ _ _ _ z => z
end Y
open PySem PySem.W PyProof.Rows
set_option Elab.async false
set_option maxRecDepth 100000
set_option maxHeartbeats 0
open_top hd for PySem.Challenge.rw_shortbynarrow_k06_families_put_in
set_option Elab.async false
set_option autoImplicit false
open PySem PySem.W PyProof.Rows
set_option maxRecDepth 100000
set_option maxHeartbeats 0
set_option pp.maxSteps 300
set_option pp.deepTerms false
theorem PySem.Challenge.cw_shortbynarrow_k06_families_put_in_holds : PySem.Challenge.rw_shortbynarrow_k06_families_put_in.Holds := by
  refine hd ?_
  k_fill
  refine Y.walk (l := PySem.Challenge.rw_shortbynarrow_k06_families_put_in) rfl rfl (fun w h Y => PySem.W.kIn_of Y) ?F
  case F =>
    intro w mg fa h KX G hmg
    refine' Y.all_mk KX G hmg ?aC ?aT ?aM ?aBx ?aNx ?aFx ?aZx ?aTx ?aLx ?a_mask_of ?l_mask_of ?c_mask_of ?k_mask_of ?a_things_of ?l_things_of ?c_things_of ?k_things_of ?a_least_masks ?l_least_masks ?c_least_masks ?k_least_masks ?a_lots_of_masks ?l_lots_of_masks ?c_lots_of_masks ?k_lots_of_masks ?a_least_lots ?l_least_lots ?c_least_lots ?k_least_lots ?a_blocker_lots ?l_blocker_lots ?c_blocker_lots ?k_blocker_lots ?a_law_inside ?l_law_inside ?c_law_inside ?k_law_inside ?a_law_common ?l_law_common ?c_law_common ?k_law_common ?a_law_subsets ?l_law_subsets ?c_law_subsets ?k_law_subsets ?a_law_least ?l_law_least ?c_law_least ?k_law_least ?a_law_meets ?l_law_meets ?c_law_meets ?k_law_meets ?a_law_blocker ?l_law_blocker ?c_law_blocker ?k_law_blocker ?a_law_sized ?l_law_sized ?c_law_sized ?k_law_sized ?a_law_fan ?l_law_fan ?c_law_fan ?k_law_fan ?a_is_integer ?l_is_integer ?c_is_integer ?k_is_integer ?a_ask_size ?l_ask_size ?c_ask_size ?k_ask_size ?a_is_thing ?l_is_thing ?c_is_thing ?k_is_thing ?a_set_of ?l_set_of ?c_set_of ?k_set_of ?a_ask_things ?l_ask_things ?c_ask_things ?k_ask_things ?a_checked_lot ?l_checked_lot ?c_checked_lot ?k_checked_lot ?a_Minit ?i_Minit ?l_Minit ?c_Minit ?k_Minit ?a_Meq ?i_Meq ?l_Meq ?c_Meq ?k_Meq ?a_Minvert ?i_Minvert ?l_Minvert ?c_Minvert ?k_Minvert ?a_Mholds ?i_Mholds ?l_Mholds ?c_Mholds ?k_Mholds ?a_law_pick ?l_law_pick ?c_law_pick ?k_law_pick ?a_law_chosen ?l_law_chosen ?c_law_chosen ?k_law_chosen ?a_law_mixed_lots ?l_law_mixed_lots ?c_law_mixed_lots ?k_law_mixed_lots ?a_law_draws ?l_law_draws ?c_law_draws ?k_law_draws ?a_lots_put ?l_lots_put ?c_lots_put ?k_lots_put ?a_family_list ?l_family_list ?c_family_list ?k_family_list ?a_starts_of ?l_starts_of ?c_starts_of ?k_starts_of ?a_ask_thing ?l_ask_thing ?c_ask_thing ?k_ask_thing ?a_lots_without ?l_lots_without ?c_lots_without ?k_lots_without ?a_lots_held ?l_lots_held ?c_lots_held ?k_lots_held ?at_Msingle ?rc_Msingle ?fn_Msingle ?rd_Msingle ?ga_Msingle ?l_Msingle ?c_Msingle ?k_Msingle ?a_Msub ?i_Msub ?b1_Msub ?b2_Msub ?b3_Msub ?b4_Msub ?b5_Msub ?l_Msub ?c_Msub ?k_Msub ?a_Mfloordiv ?i_Mfloordiv ?b1_Mfloordiv ?b2_Mfloordiv ?b3_Mfloordiv ?b4_Mfloordiv ?b5_Mfloordiv ?l_Mfloordiv ?c_Mfloordiv ?k_Mfloordiv ?a_families_for ?l_families_for ?c_families_for ?k_families_for ?a_Mcall ?i_Mcall ?fn_Mcall ?l_Mcall ?c_Mcall ?k_Mcall ?a_put_in ?l_put_in ?c_put_in ?k_put_in ?a_place_of ?l_place_of ?c_place_of ?k_place_of ?a_law_holds ?l_law_holds ?c_law_holds ?k_law_holds ?a_law_small ?l_law_small ?c_law_small ?k_law_small ?a_law_starts ?l_law_starts ?c_law_starts ?k_law_starts ?a_law_put_lots ?l_law_put_lots ?c_law_put_lots ?k_law_put_lots ?a_law_share_holds ?l_law_share_holds ?c_law_share_holds ?k_law_share_holds ?a_law_held_sets ?l_law_held_sets ?c_law_held_sets ?k_law_held_sets ?a_law_step ?l_law_step ?c_law_step ?k_law_step ?a_law_put_word ?l_law_put_word ?c_law_put_word ?k_law_put_word ?a_law_place_word ?l_law_place_word ?c_law_place_word ?k_law_place_word ?a_law_one_less ?l_law_one_less ?c_law_one_less ?k_law_one_less ?a_law_inner ?l_law_inner ?c_law_inner ?k_law_inner ?a_law_twice ?l_law_twice ?c_law_twice ?k_law_twice ?a_law_refusals ?l_law_refusals ?c_law_refusals ?k_law_refusals ?a_law_int ?l_law_int ?c_law_int ?k_law_int ?a_law ?l_law ?c_law ?k_law ?pg ?hd ?po ?sa ?mk ?kc ?nT ?nL ?nf ?tyC ?oc1 ?oc2 ?oc3 ?oc4 ?zsuper ?any ?topsup ?bB1 ?bB2 ?bB3 ?bB4 ?bB5 ?bB6 ?bB7 ?bB8 ?bB9 ?bB10 ?bB11 ?bB12 ?bB13 ?bBC ?bB14 ?bB16 ?bB17 ?bB18 ?bB19 ?bB20 ?bB21 ?bB22 ?bB23 ?bN1 ?bN2 ?bN3 ?bN4 ?bN5 ?bN6 ?bN7 ?bN8 ?bN9 ?bN10 ?bN11 ?bN12 ?bN13 ?bNC ?bN14 ?bN16 ?bN17 ?bN18 ?bN19 ?bN20 ?bN21 ?bN22 ?bN23 ?bN25 ?bN26 ?bN27 ?bF1 ?bF2 ?bF3 ?bF4 ?bF5 ?bF6 ?bF7 ?bF8 ?bF9 ?bF10 ?bF11 ?bF12 ?bF13 ?bFC ?bF14 ?bF16 ?bF17 ?bF18 ?bF19 ?bF20 ?bF21 ?bF22 ?bF23 ?bF25 ?bF26 ?bF27 ?bZ1 ?bZ2 ?bZ3 ?bZ4 ?bZ5 ?bZ6 ?bZ7 ?bZ8 ?bZ9 ?bZ10 ?bZ11 ?bZ12 ?bZ13 ?bZC ?bZ14 ?bZ16 ?bZ17 ?bZ18 ?bZ19 ?bZ20 ?bZ21 ?bZ22 ?bZ23 ?bZ25 ?bZ26 ?bZ27 ?bT1 ?bT2 ?bT3 ?bT4 ?bT5 ?bT6 ?bT7 ?bT8 ?bT9 ?bT10 ?bT11 ?bT12 ?bT13 ?bTC ?bT14 ?bT16 ?bT17 ?bT18 ?bT19 ?bT20 ?bT21 ?bT22 ?bT23 ?bT25 ?bT26 ?bT27 ?bL1 ?bL2 ?bL3 ?bL4 ?bL5 ?bL6 ?bL7 ?bL8 ?bL9 ?bL10 ?bL11 ?bL12 ?bL13 ?bLC ?bL14 ?bL16 ?bL17 ?bL18 ?bL19 ?bL19b ?bL20 ?bL21 ?bL22 ?bL23 ?bL25 ?bL26 ?bL27 ?bL28 ?nNF ?nNZ ?nZF ?nTF ?z_len ?z_sum ?z_all ?z_any ?z_sorted ?z_tuple ?z_list ?z_int ?z_bool ?z_range ?z_isinstance ?z_min ?z_max
    (case aC => k_is)
    (case aT => k_is)
    (case aM => k_is)
    (case aBx => k_is)
    (case aNx => k_is)
    (case aFx => k_is)
    (case aZx => k_is)
    (case aTx => k_is)
    (case aLx => k_is)
    (case a_mask_of => k_is)
    (case l_mask_of => k_is)
    (case c_mask_of => k_is)
    (case k_mask_of => k_is)
    (case a_things_of => k_is)
    (case l_things_of => k_is)
    (case c_things_of => k_is)
    (case k_things_of => k_is)
    (case a_least_masks => k_is)
    (case l_least_masks => k_is)
    (case c_least_masks => k_is)
    (case k_least_masks => k_is)
    (case a_lots_of_masks => k_is)
    (case l_lots_of_masks => k_is)
    (case c_lots_of_masks => k_is)
    (case k_lots_of_masks => k_is)
    (case a_least_lots => k_is)
    (case l_least_lots => k_is)
    (case c_least_lots => k_is)
    (case k_least_lots => k_is)
    (case a_blocker_lots => k_is)
    (case l_blocker_lots => k_is)
    (case c_blocker_lots => k_is)
    (case k_blocker_lots => k_is)
    (case a_law_inside => k_is)
    (case l_law_inside => k_is)
    (case c_law_inside => k_is)
    (case k_law_inside => k_is)
    (case a_law_common => k_is)
    (case l_law_common => k_is)
    (case c_law_common => k_is)
    (case k_law_common => k_is)
    (case a_law_subsets => k_is)
    (case l_law_subsets => k_is)
    (case c_law_subsets => k_is)
    (case k_law_subsets => k_is)
    (case a_law_least => k_is)
    (case l_law_least => k_is)
    (case c_law_least => k_is)
    (case k_law_least => k_is)
    (case a_law_meets => k_is)
    (case l_law_meets => k_is)
    (case c_law_meets => k_is)
    (case k_law_meets => k_is)
    (case a_law_blocker => k_is)
    (case l_law_blocker => k_is)
    (case c_law_blocker => k_is)
    (case k_law_blocker => k_is)
    (case a_law_sized => k_is)
    (case l_law_sized => k_is)
    (case c_law_sized => k_is)
    (case k_law_sized => k_is)
    (case a_law_fan => k_is)
    (case l_law_fan => k_is)
    (case c_law_fan => k_is)
    (case k_law_fan => k_is)
    (case a_is_integer => k_is)
    (case l_is_integer => k_is)
    (case c_is_integer => k_is)
    (case k_is_integer => k_is)
    (case a_ask_size => k_is)
    (case l_ask_size => k_is)
    (case c_ask_size => k_is)
    (case k_ask_size => k_is)
    (case a_is_thing => k_is)
    (case l_is_thing => k_is)
    (case c_is_thing => k_is)
    (case k_is_thing => k_is)
    (case a_set_of => k_is)
    (case l_set_of => k_is)
    (case c_set_of => k_is)
    (case k_set_of => k_is)
    (case a_ask_things => k_is)
    (case l_ask_things => k_is)
    (case c_ask_things => k_is)
    (case k_ask_things => k_is)
    (case a_checked_lot => k_is)
    (case l_checked_lot => k_is)
    (case c_checked_lot => k_is)
    (case k_checked_lot => k_is)
    (case a_Minit => k_is)
    (case i_Minit => k_is)
    (case l_Minit => k_is)
    (case c_Minit => k_is)
    (case k_Minit => k_is)
    (case a_Meq => k_is)
    (case i_Meq => k_is)
    (case l_Meq => k_is)
    (case c_Meq => k_is)
    (case k_Meq => k_is)
    (case a_Minvert => k_is)
    (case i_Minvert => k_is)
    (case l_Minvert => k_is)
    (case c_Minvert => k_is)
    (case k_Minvert => k_is)
    (case a_Mholds => k_is)
    (case i_Mholds => k_is)
    (case l_Mholds => k_is)
    (case c_Mholds => k_is)
    (case k_Mholds => k_is)
    (case a_law_pick => k_is)
    (case l_law_pick => k_is)
    (case c_law_pick => k_is)
    (case k_law_pick => k_is)
    (case a_law_chosen => k_is)
    (case l_law_chosen => k_is)
    (case c_law_chosen => k_is)
    (case k_law_chosen => k_is)
    (case a_law_mixed_lots => k_is)
    (case l_law_mixed_lots => k_is)
    (case c_law_mixed_lots => k_is)
    (case k_law_mixed_lots => k_is)
    (case a_law_draws => k_is)
    (case l_law_draws => k_is)
    (case c_law_draws => k_is)
    (case k_law_draws => k_is)
    (case a_lots_put => k_is)
    (case l_lots_put => k_is)
    (case c_lots_put => k_is)
    (case k_lots_put => k_is)
    (case a_family_list => k_is)
    (case l_family_list => k_is)
    (case c_family_list => k_is)
    (case k_family_list => k_is)
    (case a_starts_of => k_is)
    (case l_starts_of => k_is)
    (case c_starts_of => k_is)
    (case k_starts_of => k_is)
    (case a_ask_thing => k_is)
    (case l_ask_thing => k_is)
    (case c_ask_thing => k_is)
    (case k_ask_thing => k_is)
    (case a_lots_without => k_is)
    (case l_lots_without => k_is)
    (case c_lots_without => k_is)
    (case k_lots_without => k_is)
    (case a_lots_held => k_is)
    (case l_lots_held => k_is)
    (case c_lots_held => k_is)
    (case k_lots_held => k_is)
    (case at_Msingle => k_is)
    (case rc_Msingle => k_is)
    (case fn_Msingle => k_is)
    (case rd_Msingle => k_is)
    (case ga_Msingle => k_is)
    (case l_Msingle => k_is)
    (case c_Msingle => k_is)
    (case k_Msingle => k_is)
    (case a_Msub => k_is)
    (case i_Msub => k_is)
    (case b1_Msub => k_is)
    (case b2_Msub => k_is)
    (case b3_Msub => k_is)
    (case b4_Msub => k_is)
    (case b5_Msub => k_is)
    (case l_Msub => k_is)
    (case c_Msub => k_is)
    (case k_Msub => k_is)
    (case a_Mfloordiv => k_is)
    (case i_Mfloordiv => k_is)
    (case b1_Mfloordiv => k_is)
    (case b2_Mfloordiv => k_is)
    (case b3_Mfloordiv => k_is)
    (case b4_Mfloordiv => k_is)
    (case b5_Mfloordiv => k_is)
    (case l_Mfloordiv => k_is)
    (case c_Mfloordiv => k_is)
    (case k_Mfloordiv => k_is)
    (case a_families_for => k_is)
    (case l_families_for => k_is)
    (case c_families_for => k_is)
    (case k_families_for => k_is)
    (case a_Mcall => k_is)
    (case i_Mcall => k_is)
    (case fn_Mcall => k_is)
    (case l_Mcall => k_is)
    (case c_Mcall => k_is)
    (case k_Mcall => k_is)
    (case a_put_in => k_is)
    (case l_put_in => k_is)
    (case c_put_in => k_is)
    (case k_put_in => k_is)
    (case a_place_of => k_is)
    (case l_place_of => k_is)
    (case c_place_of => k_is)
    (case k_place_of => k_is)
    (case a_law_holds => k_is)
    (case l_law_holds => k_is)
    (case c_law_holds => k_is)
    (case k_law_holds => k_is)
    (case a_law_small => k_is)
    (case l_law_small => k_is)
    (case c_law_small => k_is)
    (case k_law_small => k_is)
    (case a_law_starts => k_is)
    (case l_law_starts => k_is)
    (case c_law_starts => k_is)
    (case k_law_starts => k_is)
    (case a_law_put_lots => k_is)
    (case l_law_put_lots => k_is)
    (case c_law_put_lots => k_is)
    (case k_law_put_lots => k_is)
    (case a_law_share_holds => k_is)
    (case l_law_share_holds => k_is)
    (case c_law_share_holds => k_is)
    (case k_law_share_holds => k_is)
    (case a_law_held_sets => k_is)
    (case l_law_held_sets => k_is)
    (case c_law_held_sets => k_is)
    (case k_law_held_sets => k_is)
    (case a_law_step => k_is)
    (case l_law_step => k_is)
    (case c_law_step => k_is)
    (case k_law_step => k_is)
    (case a_law_put_word => k_is)
    (case l_law_put_word => k_is)
    (case c_law_put_word => k_is)
    (case k_law_put_word => k_is)
    (case a_law_place_word => k_is)
    (case l_law_place_word => k_is)
    (case c_law_place_word => k_is)
    (case k_law_place_word => k_is)
    (case a_law_one_less => k_is)
    (case l_law_one_less => k_is)
    (case c_law_one_less => k_is)
    (case k_law_one_less => k_is)
    (case a_law_inner => k_is)
    (case l_law_inner => k_is)
    (case c_law_inner => k_is)
    (case k_law_inner => k_is)
    (case a_law_twice => k_is)
    (case l_law_twice => k_is)
    (case c_law_twice => k_is)
    (case k_law_twice => k_is)
    (case a_law_refusals => k_is)
    (case l_law_refusals => k_is)
    (case c_law_refusals => k_is)
    (case k_law_refusals => k_is)
    (case a_law_int => k_is)
    (case l_law_int => k_is)
    (case c_law_int => k_is)
    (case k_law_int => k_is)
    (case a_law => k_is)
    (case l_law => k_is)
    (case c_law => k_is)
    (case k_law => k_is)
    (case pg => k_is)
    (case hd => k_is)
    (case po => k_is)
    (case sa => k_is)
    (case mk => k_is)
    (case kc => k_is)
    (case nT => k_is)
    (case nL => k_is)
    (case nf => k_is)
    (case tyC => k_is)
    (case oc1 => k_is)
    (case oc2 => k_is)
    (case oc3 => k_is)
    (case oc4 => k_is)
    (case zsuper => k_is)
    (case any => k_is)
    (case topsup => (first | rfl | decide +kernel))
    (case bB1 => k_is)
    (case bB2 => kx_is)
    (case bB3 => kx_is)
    (case bB4 => k_is)
    (case bB5 => k_is)
    (case bB6 => k_is)
    (case bB7 => (intro u v; rfl))
    (case bB8 => rfl)
    (case bB9 => rfl)
    (case bB10 => k_is)
    (case bB11 => rfl)
    (case bB12 => (first | rfl | decide +kernel))
    (case bB13 => k_is)
    (case bBC => (intro L; exact ⟨_, rfl⟩))
    (case bB14 => ks_is)
    (case bB16 => k_is)
    (case bB17 => k_is)
    (case bB18 => k_is)
    (case bB19 => k_is)
    (case bB20 => k_is)
    (case bB21 => k_is)
    (case bB22 => k_is)
    (case bB23 => k_is)
    (case bN1 => k_is)
    (case bN2 => kx_is)
    (case bN3 => kx_is)
    (case bN4 => k_is)
    (case bN5 => k_is)
    (case bN6 => k_is)
    (case bN7 => (intro u v; rfl))
    (case bN8 => rfl)
    (case bN9 => rfl)
    (case bN10 => k_is)
    (case bN11 => rfl)
    (case bN12 => (first | rfl | decide +kernel))
    (case bN13 => k_is)
    (case bNC => (intro L; exact ⟨_, rfl⟩))
    (case bN14 => ks_is)
    (case bN16 => k_is)
    (case bN17 => k_is)
    (case bN18 => k_is)
    (case bN19 => k_is)
    (case bN20 => k_is)
    (case bN21 => k_is)
    (case bN22 => k_is)
    (case bN23 => k_is)
    (case bN25 => k_is)
    (case bN26 => k_is)
    (case bN27 => k_is)
    (case bF1 => k_is)
    (case bF2 => kx_is)
    (case bF3 => kx_is)
    (case bF4 => k_is)
    (case bF5 => k_is)
    (case bF6 => k_is)
    (case bF7 => (intro u v; rfl))
    (case bF8 => rfl)
    (case bF9 => rfl)
    (case bF10 => k_is)
    (case bF11 => rfl)
    (case bF12 => (first | rfl | decide +kernel))
    (case bF13 => k_is)
    (case bFC => (intro L; exact ⟨_, rfl⟩))
    (case bF14 => ks_is)
    (case bF16 => k_is)
    (case bF17 => k_is)
    (case bF18 => k_is)
    (case bF19 => k_is)
    (case bF20 => k_is)
    (case bF21 => k_is)
    (case bF22 => k_is)
    (case bF23 => k_is)
    (case bF25 => k_is)
    (case bF26 => k_is)
    (case bF27 => k_is)
    (case bZ1 => k_is)
    (case bZ2 => kx_is)
    (case bZ3 => kx_is)
    (case bZ4 => k_is)
    (case bZ5 => k_is)
    (case bZ6 => k_is)
    (case bZ7 => (intro u v; rfl))
    (case bZ8 => rfl)
    (case bZ9 => rfl)
    (case bZ10 => k_is)
    (case bZ11 => rfl)
    (case bZ12 => (first | rfl | decide +kernel))
    (case bZ13 => k_is)
    (case bZC => (intro L; exact ⟨_, rfl⟩))
    (case bZ14 => ks_is)
    (case bZ16 => k_is)
    (case bZ17 => k_is)
    (case bZ18 => k_is)
    (case bZ19 => k_is)
    (case bZ20 => k_is)
    (case bZ21 => k_is)
    (case bZ22 => k_is)
    (case bZ23 => k_is)
    (case bZ25 => k_is)
    (case bZ26 => k_is)
    (case bZ27 => k_is)
    (case bT1 => k_is)
    (case bT2 => kx_is)
    (case bT3 => kx_is)
    (case bT4 => k_is)
    (case bT5 => k_is)
    (case bT6 => k_is)
    (case bT7 => (intro u v; rfl))
    (case bT8 => rfl)
    (case bT9 => rfl)
    (case bT10 => k_is)
    (case bT11 => rfl)
    (case bT12 => (first | rfl | decide +kernel))
    (case bT13 => k_is)
    (case bTC => (intro L; exact ⟨_, rfl⟩))
    (case bT14 => ks_is)
    (case bT16 => k_is)
    (case bT17 => k_is)
    (case bT18 => k_is)
    (case bT19 => k_is)
    (case bT20 => k_is)
    (case bT21 => k_is)
    (case bT22 => k_is)
    (case bT23 => k_is)
    (case bT25 => k_is)
    (case bT26 => k_is)
    (case bT27 => k_is)
    (case bL1 => k_is)
    (case bL2 => kx_is)
    (case bL3 => kx_is)
    (case bL4 => k_is)
    (case bL5 => k_is)
    (case bL6 => k_is)
    (case bL7 => (intro u v v2; rfl))
    (case bL8 => rfl)
    (case bL9 => rfl)
    (case bL10 => k_is)
    (case bL11 => rfl)
    (case bL12 => (first | rfl | decide +kernel))
    (case bL13 => k_is)
    (case bLC => (intro L; exact ⟨_, rfl⟩))
    (case bL14 => ks_is)
    (case bL16 => k_is)
    (case bL17 => k_is)
    (case bL18 => k_is)
    (case bL19 => k_is)
    (case bL19b => k_is)
    (case bL20 => k_is)
    (case bL21 => k_is)
    (case bL22 => k_is)
    (case bL23 => k_is)
    (case bL25 => k_is)
    (case bL26 => k_is)
    (case bL27 => k_is)
    (case bL28 => k_is)
    (case nNF => k_is)
    (case nNZ => k_is)
    (case nZF => k_is)
    (case nTF => k_is)
    (case z_len => k_is)
    (case z_sum => k_is)
    (case z_all => k_is)
    (case z_any => k_is)
    (case z_sorted => k_is)
    (case z_tuple => k_is)
    (case z_list => k_is)
    (case z_int => k_is)
    (case z_bool => k_is)
    (case z_range => k_is)
    (case z_isinstance => k_is)
    (case z_min => k_is)
    (case z_max => k_is)
