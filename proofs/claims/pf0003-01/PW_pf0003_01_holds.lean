import PyProof.Rows.All
import Wide.All
import OpenK.AllK
import Wide.FinOn
import Lean
import PySem.Challenge.RW_pf0003_01
set_option Elab.async false
section
open PySem PySem.W PyProof.Rows
namespace Mine
set_option maxRecDepth 100000
set_option maxHeartbeats 0
open_top hd for PySem.Challenge.rw_pf0003_01
end Mine

end

section
open PySem PySem.W PySem.Calls PySem.Spec PyProof.Rows PySem.StrLaws
namespace Mine

noncomputable def isFig (c : Nat) : Bool := 48 ≤ c && c ≤ 57
noncomputable def isWord (c : Nat) : Bool := (65 ≤ c && c ≤ 90) || (97 ≤ c && c ≤ 122) || isFig c || c == 46 || c == 36 || c == 37 || c == 33

theorem fuel_lt {l a r k : Nat} (h : l - a < k + 1) (h0 : a < l) (h1 : a + 1 ≤ r) : l - r < k := Nat.lt_of_lt_of_le (Nat.sub_lt_sub_left h0 h1) (Nat.le_of_lt_succ h)
theorem fuel_lt' {l a r n : Nat} (h : l - a = n) (h0 : a < l) (h1 : a < r) : l - r < n := h ▸ Nat.sub_lt_sub_left h0 h1
theorem no_min {L R T : Nat} (h : T < L - R) : min (L - R - T) (L - T) ≠ 0 := Nat.ne_of_gt (Nat.lt_min.mpr ⟨Nat.sub_pos_of_lt h, Nat.sub_pos_of_lt (Nat.lt_of_lt_of_le h (Nat.sub_le _ _))⟩)
theorem min_shift {a T L : Nat} (h : a + 1 ≤ L) : min (a + 1 + T + 1) L = a + (min (T + 1) (L - (a + 1)) + 1) := by
  obtain ⟨d, rfl⟩ := Nat.le.dest h
  rw [Nat.add_sub_cancel_left, Nat.add_assoc (a + 1), Nat.add_min_add_left, Nat.add_assoc a, Nat.add_comm 1]
theorem min_fold (g d : Nat) : min (10 * min g 65530 + d) 65530 = min (g * 10 + d) 65530 := by
  rcases Nat.le_total g 65530 with h | h
  · rw [Nat.min_eq_left h, Nat.mul_comm]
  · rw [Nat.min_eq_right h, Nat.min_eq_right (Nat.le_trans (by decide : 65530 ≤ 10 * 65530) (Nat.le_add_right _ _)), Nat.min_eq_right (Nat.le_trans h (Nat.le_trans (Nat.le_mul_of_pos_right g (by decide)) (Nat.le_add_right _ _)))]
theorem weave_nat {A N V a p q k L : Nat} (h1 : a ≤ p) (h2 : p < q) (hA : A ≤ p - a) (hN : N ≤ q - p + 5) (h3 : V + q ≤ L + 5 * k) : A + N + V + a ≤ L + 5 * (k + 1) := by
  have hA' := Nat.add_le_of_le_sub h1 hA
  obtain ⟨d, rfl⟩ := Nat.le.dest (Nat.le_of_lt h2)
  rw [Nat.add_sub_cancel_left] at hN
  clear hA h2 h1
  omega
/-- the first place from i on that does not hold -/
@[irreducible] noncomputable def runEnd (p : Nat → Bool) (cs : List Nat) (i : Nat) : Nat := i + ((cs.drop i).takeWhile p).length

theorem dropD_at {cs : List Nat} {i : Nat} (h : i < cs.length) : cs.drop i = cs.getD i 0 :: cs.drop (i + 1) := by
  rw [List.drop_eq_getElem_cons h, List.getD_eq_getElem?_getD, List.getElem?_eq_getElem h]; rfl
theorem runEnd_go {p : Nat → Bool} {cs : List Nat} {i : Nat} (h : i < cs.length) (hp : p (cs.getD i 0) = true) : runEnd p cs i = runEnd p cs (i + 1) := by
  unfold runEnd
  rw [dropD_at h, List.takeWhile_cons_of_pos hp, List.length_cons]
  exact (Nat.add_assoc _ _ 1).symm.trans (Nat.add_right_comm _ _ 1)
theorem runEnd_end {p : Nat → Bool} {cs : List Nat} {i : Nat} (h : ¬ i < cs.length) : runEnd p cs i = i := by
  unfold runEnd
  rw [List.drop_eq_nil_of_le (Nat.le_of_not_lt h)]; rfl
theorem runEnd_stop {p : Nat → Bool} {cs : List Nat} {i : Nat} (hp : p (cs.getD i 0) = false) : runEnd p cs i = i := by
  by_cases h : i < cs.length
  · unfold runEnd
    rw [dropD_at h, List.takeWhile_cons_of_neg (by rw [hp]; exact Bool.false_ne_true)]; rfl
  · exact runEnd_end h
theorem runEnd_le {p : Nat → Bool} {cs : List Nat} : ∀ {n i : Nat}, cs.length - i = n → i ≤ cs.length → i ≤ runEnd p cs i ∧ runEnd p cs i ≤ cs.length := by
  intro n
  induction n with
  | zero => intro i h hi; rw [runEnd_end (by omega)]; exact ⟨Nat.le_refl _, hi⟩
  | succ n ih =>
    intro i h hi
    cases hp : p (cs.getD i 0) with
    | true =>
      have := ih (i := i + 1) (by omega) (by omega)
      rw [runEnd_go (by omega) hp]; omega
    | false => rw [runEnd_stop hp]; omega
theorem runEnd_ge {p : Nat → Bool} {cs : List Nat} {i : Nat} (hi : i ≤ cs.length) : i ≤ runEnd p cs i := (runEnd_le rfl hi).1
theorem runEnd_len {p : Nat → Bool} {cs : List Nat} {i : Nat} (hi : i ≤ cs.length) : runEnd p cs i ≤ cs.length := (runEnd_le rfl hi).2

noncomputable abbrev codes (x : Str) : List Nat := x.cps.toList
theorem codes_len (x : Str) : (codes x).length = x.length := by simp [codes, Str.length]

theorem item_one {x : Str} {i : Nat} (h : i < x.length) : Txt.item x (i : Int) = ⟨#[(codes x).getD i 0]⟩ := by
  rw [item_meets ⟨by omega, by exact_mod_cast h⟩]
  simp [codes, Array.getD, List.getD]
  have h' : i < x.cps.size := h
  simp [h']

theorem in_one (hay : Str) (c : Nat) : (Builtin.Str.occurrences hay ⟨#[c]⟩ 0 hay.length 1).isEmpty = !(hay.cps.toList.contains c) := by
  have h := StrLaws.found_iff hay ⟨#[c]⟩
  have h2 : (∃ i, i + (⟨#[c]⟩ : Str).length ≤ hay.length ∧ Builtin.Str.subAt hay ⟨#[c]⟩ i = true) ↔ c ∈ hay.cps.toList := by
    constructor
    · rintro ⟨i, hi⟩
      exact List.mem_of_getElem? ((StrLaws.subAt_one hay c i).mp hi)
    · intro hm
      obtain ⟨i, hi⟩ := List.getElem?_of_mem hm
      exact ⟨i, (StrLaws.subAt_one hay c i).mpr hi⟩
  rw [h2] at h
  cases hb : (Builtin.Str.occurrences hay ⟨#[c]⟩ 0 hay.length 1).isEmpty with
  | true =>
    rw [hb] at h
    have : ¬ c ∈ hay.cps.toList := fun hm => by have := h.mpr hm; simp at this
    simpa using this
  | false =>
    rw [hb] at h
    have : c ∈ hay.cps.toList := h.mp rfl
    simpa using this

theorem figs_codes : (Str.ofString "0123456789").cps.toList = [48, 49, 50, 51, 52, 53, 54, 55, 56, 57] := by decide
theorem fig_mem (c : Nat) : ([48, 49, 50, 51, 52, 53, 54, 55, 56, 57] : List Nat).contains c = isFig c := by
  by_cases h : c < 58
  · exact (by decide : ∀ c < 58, ([48, 49, 50, 51, 52, 53, 54, 55, 56, 57] : List Nat).contains c = isFig c) c h
  · have e : isFig c = false := by
      unfold isFig
      rw [Bool.and_eq_false_iff]
      exact .inr (decide_eq_false (fun q => h (Nat.lt_succ_of_le q)))
    rw [e]
    cases hc : ([48, 49, 50, 51, 52, 53, 54, 55, 56, 57] : List Nat).contains c with
    | false => rfl
    | true =>
      have hm := List.contains_iff_mem.mp hc
      exact absurd ((by decide : ∀ x ∈ ([48, 49, 50, 51, 52, 53, 54, 55, 56, 57] : List Nat), x < 58) c hm) h
theorem fig_in (c : Nat) : (Builtin.Str.occurrences (Str.ofString "0123456789") ⟨#[c]⟩ 0 (Str.ofString "0123456789").length 1).isEmpty = !(isFig c) := by
  rw [in_one, figs_codes, fig_mem]

theorem kstB_off {rest : Str → Option Value} {z : Str} : ∀ {ps : List (Str × Value)}, (∀ p ∈ ps, z ≠ p.1) → kstB rest ps z = rest z
  | [], _ => rfl
  | p :: r, h => by
    show (if z = p.1 then some p.2 else kstB rest r z) = rest z
    rw [if_neg (h p List.mem_cons_self)]
    exact kstB_off fun q hq => h q (List.mem_cons_of_mem _ hq)
/-- what a store at a told name leaves alone -/
theorem same_put {m m₀ : Str → Option Value} {ps : List (Str × Value)} {stored : List Str} {k : Str} {v : Value}
    (hk : stored.contains k = true ∨ k ∈ ps.map (·.1)) (h : ∀ z, (∀ p ∈ ps, z ≠ p.1) → stored.contains z = false → m z = m₀ z) :
    ∀ z, (∀ p ∈ ps, z ≠ p.1) → stored.contains z = false → (if z = k then some v else m z) = m₀ z := by
  intro z h2 h3
  rw [if_neg ?_]
  · exact h z h2 h3
  · rintro rfl
    rcases hk with hk | hk
    · rw [hk] at h3; cases h3
    · obtain ⟨p, hp, e⟩ := List.mem_map.mp hk
      exact h2 p hp e.symm
theorem same_kst {u m₀ : Str → Option Value} {qs ps : List (Str × Value)} {stored : List Str} (hq : qs.map (·.1) = ps.map (·.1)) :
    ∀ z, (∀ p ∈ ps, z ≠ p.1) → stored.contains z = false → kstB (fun z => if stored.contains z then u z else m₀ z) qs z = m₀ z := by
  intro z h2 h3
  rw [kstB_off]
  · show (if stored.contains z = true then u z else m₀ z) = m₀ z
    rw [h3]; rfl
  · intro q hq' e
    have : q.1 ∈ ps.map (·.1) := hq ▸ List.mem_map_of_mem hq'
    obtain ⟨p, hp, e'⟩ := List.mem_map.mp this
    exact h2 p hp (e.trans e'.symm)

/-- behind the quote that opens at i -/
noncomputable def quoteEnd (cs : List Nat) (i : Nat) : Nat := min (runEnd (· != 34) cs (i + 1) + 1) cs.length
theorem one_eq (c d : Nat) : ((⟨#[c]⟩ : Str) == (⟨#[d]⟩ : Str)) = (c == d) := by
  rw [Bool.eq_iff_iff]; simp
theorem sp_str : Str.ofString " " = ⟨#[32]⟩ := by decide
theorem qu_str : Str.ofString "\"" = ⟨#[34]⟩ := by decide
theorem ap_str : Str.ofString "'" = ⟨#[39]⟩ := by decide
theorem co_str : Str.ofString "," = ⟨#[44]⟩ := by decide
theorem cl_str : Str.ofString ":" = ⟨#[58]⟩ := by decide

theorem l_one (c : Nat) : (⟨#[c]⟩ : Str).cps.toList = [c] := rfl
theorem l_A : (Str.ofString "A").cps.toList = [65] := by decide
theorem l_Z : (Str.ofString "Z").cps.toList = [90] := by decide
theorem l_a : (Str.ofString "a").cps.toList = [97] := by decide
theorem l_z : (Str.ofString "z").cps.toList = [122] := by decide
theorem lt_one (a b : Nat) : ([a] < [b]) ↔ a < b := by
  constructor
  · intro h
    rcases List.cons_lt_cons_iff.mp h with h | ⟨_, h⟩
    · exact h
    · exact absurd h (List.lt_irrefl _)
  · exact fun h => List.cons_lt_cons_iff.mpr (.inl h)
theorem pun_codes : (Str.ofString ".$%!").cps.toList = [46, 36, 37, 33] := by decide
theorem pun_mem (c : Nat) : ([46, 36, 37, 33] : List Nat).contains c = (c == 46 || c == 36 || c == 37 || c == 33) := by
  simp only [List.contains_cons, List.contains_nil, Bool.or_false, Bool.or_assoc]
theorem pun_in (c : Nat) : (Builtin.Str.occurrences (Str.ofString ".$%!") ⟨#[c]⟩ 0 (Str.ofString ".$%!").length 1).isEmpty = !(c == 46 || c == 36 || c == 37 || c == 33) := by
  rw [in_one, pun_codes, pun_mem]
theorem fr_kst {h₀ h : Heap} {L : Addr} {m : Str → Option Value} (ps : List (Str × Value)) (hps : ∀ p ∈ ps, m p.1 = some p.2) (F : Fr h₀ L h m) : Fr h₀ L h (kstB m ps) := by
  have : kstB m ps = m := by
    funext y
    exact kstB_eq hps fun _ => rfl
  rw [this]; exact F

theorem runEnd_is {p : Nat → Bool} {cs : List Nat} {k : Nat} (hk : k ≤ cs.length) (hs : k < cs.length → p (cs.getD k 0) = false) : ∀ {n i : Nat}, k - i = n → i ≤ k → (∀ v, i ≤ v → v < k → p (cs.getD v 0) = true) → runEnd p cs i = k := by
  intro n
  induction n with
  | zero =>
    intro i hn hi _
    have : i = k := by omega
    subst this
    by_cases h : i < cs.length
    · exact runEnd_stop (hs h)
    · exact runEnd_end h
  | succ n ih =>
    intro i hn hi h
    rw [runEnd_go (by omega) (h i (Nat.le_refl _) (by omega))]
    exact ih (by omega) (by omega) fun v h1 h2 => h v (by omega) h2
theorem getD_codes (x : Str) (i : Nat) : x.cps.getD i 0 = (codes x).getD i 0 := by
  simp [codes, Array.getD, List.getD]
  split <;> rename_i h
  · simp [h]
  · simp [Nat.not_lt.mp h]
theorem find_quote {x : Str} {i : Nat} (h : i < x.length) :
    (Txt.find3 x (Str.ofString "\"") ((i : Int) + 1) < 0 → quoteEnd (codes x) i = x.length) ∧ (¬ Txt.find3 x (Str.ofString "\"") ((i : Int) + 1) < 0 → (quoteEnd (codes x) i : Int) = Txt.find3 x (Str.ofString "\"") ((i : Int) + 1) + 1) := by
  have hl := codes_len x
  have hf : fromIndex x.length ((i : Int) + 1) = i + 1 := by
    unfold fromIndex
    rw [if_neg (by omega)]
    omega
  have h3 := StrLaws.find3_spec x 34 ((i : Int) + 1)
  rw [qu_str]
  rw [hf] at h3
  rcases h3 with ⟨e, hn⟩ | ⟨k, e, h1, h2, h3, h4⟩
  · refine ⟨fun _ => ?_, fun hc => absurd (by rw [e]; decide) hc⟩
    have : runEnd (· != 34) (codes x) (i + 1) = x.length := runEnd_is (by omega) (by omega) rfl (by omega) fun v hv1 hv2 => by
      have := hn v hv1 hv2
      rw [getD_codes] at this
      simpa using this
    unfold quoteEnd
    rw [this]; omega
  · refine ⟨fun hc => absurd hc (by rw [e]; omega), fun _ => ?_⟩
    have : runEnd (· != 34) (codes x) (i + 1) = k := runEnd_is (by omega) (fun _ => by rw [← getD_codes, h3]; rfl) rfl (by omega) fun v hv1 hv2 => by
      have := h4 v hv1 hv2
      rw [getD_codes] at this
      simpa using this
    unfold quoteEnd
    rw [this, e]; omega

theorem quoteEnd_gt {cs : List Nat} {i : Nat} (h : i < cs.length) : i < quoteEnd cs i := by
  have := runEnd_ge (p := (· != 34)) (cs := cs) (i := i + 1) (by omega)
  unfold quoteEnd
  omega
theorem quoteEnd_len (cs : List Nat) (i : Nat) : quoteEnd cs i ≤ cs.length := by unfold quoteEnd; omega
/-- the colon that ends the data, or the text's end -/
noncomputable def dataEndF (cs : List Nat) : Nat → Nat → Nat
  | 0, i => i
  | n + 1, i => if i < cs.length then (if cs.getD i 0 = 58 then i else if cs.getD i 0 = 34 then dataEndF cs n (quoteEnd cs i) else dataEndF cs n (i + 1)) else i
@[irreducible] noncomputable def dataEnd (cs : List Nat) (i : Nat) : Nat := dataEndF cs (cs.length - i) i
theorem dataEndF_end {cs : List Nat} {i : Nat} (h : ¬ i < cs.length) : ∀ n, dataEndF cs n i = i
  | 0 => rfl
  | _ + 1 => if_neg h
theorem dataEndF_fuel {cs : List Nat} : ∀ {n m i : Nat}, cs.length - i ≤ n → cs.length - i ≤ m → dataEndF cs n i = dataEndF cs m i := by
  intro n
  induction n with
  | zero => intro m i h _; rw [dataEndF_end (by omega), dataEndF_end (by omega)]
  | succ n ih =>
    intro m i h h'
    cases m with
    | zero => rw [dataEndF_end (by omega), dataEndF_end (by omega)]
    | succ m =>
      by_cases hi : i < cs.length
      · have := quoteEnd_gt hi
        simp only [dataEndF.eq_2]
        rw [ih (m := m) (i := quoteEnd cs i) (by omega) (by omega), ih (m := m) (i := i + 1) (by omega) (by omega)]
      · rw [dataEndF_end hi, dataEndF_end hi]
theorem dataEnd_end {cs : List Nat} {i : Nat} (h : ¬ i < cs.length) : dataEnd cs i = i := by unfold dataEnd; exact dataEndF_end h _
theorem dataEnd_step {cs : List Nat} {i : Nat} (h : i < cs.length) : dataEnd cs i = if cs.getD i 0 = 58 then i else if cs.getD i 0 = 34 then dataEnd cs (quoteEnd cs i) else dataEnd cs (i + 1) := by
  have := quoteEnd_gt h
  unfold dataEnd
  rw [dataEndF_fuel (n := cs.length - i) (m := (cs.length - (i + 1)) + 1) (by omega) (by omega), dataEndF.eq_2, if_pos h,
    dataEndF_fuel (n := cs.length - (i + 1)) (m := cs.length - quoteEnd cs i) (i := quoteEnd cs i) (by omega) (by omega)]
theorem dataEnd_stop {cs : List Nat} {i : Nat} (hc : cs.getD i 0 = 58) : dataEnd cs i = i := by
  by_cases h : i < cs.length
  · rw [dataEnd_step h, if_pos hc]
  · exact dataEnd_end h
theorem dataEnd_quote {cs : List Nat} {i : Nat} (h : i < cs.length) (hc : cs.getD i 0 = 34) : dataEnd cs i = dataEnd cs (quoteEnd cs i) := by
  rw [dataEnd_step h, if_neg (by omega), if_pos hc]
theorem dataEnd_go {cs : List Nat} {i : Nat} (h : i < cs.length) (h1 : cs.getD i 0 ≠ 58) (h2 : cs.getD i 0 ≠ 34) : dataEnd cs i = dataEnd cs (i + 1) := by
  rw [dataEnd_step h, if_neg h1, if_neg h2]

theorem fig_occ {n : Nat} (h : isFig n = true) : Builtin.Str.occurrences (Str.ofString "0123456789") ⟨#[n]⟩ 0 (Str.ofString "0123456789").length 1 = (n - 48) :: [] := by
  have h' : 48 ≤ n ∧ n ≤ 57 := by simpa [isFig] using h
  have H : ∀ i < 10, Builtin.Str.occurrences (Str.ofString "0123456789") ⟨#[48 + i]⟩ 0 (Str.ofString "0123456789").length 1 = i :: [] := by decide +kernel
  have := H (n - 48) (Nat.lt_of_le_of_lt (Nat.sub_le_sub_right h'.2 48) (by decide))
  rwa [Nat.add_sub_cancel' h'.1] at this
noncomputable def numTold (ds : List Nat) : Nat := ds.foldl (fun f c => min (10 * f + (c - 48)) 65530) 0
noncomputable def numLaw (ds : List Nat) : Nat := ds.foldl (fun f c => f * 10 + (c - 48)) 0

theorem same_putF {x : Str} {m m₀ : Str → Option Value} {ps : List (Str × Value)} {stored : List Str} {k : Str} {v : Value}
    (hk : stored.contains k = true ∨ k ∈ ps.map (·.1)) (h : ∀ z, z ≠ x → (∀ p ∈ ps, z ≠ p.1) → stored.contains z = false → m z = m₀ z) :
    ∀ z, z ≠ x → (∀ p ∈ ps, z ≠ p.1) → stored.contains z = false → (if z = k then some v else m z) = m₀ z :=
  fun z h1 h2 h3 => same_put (m := fun z => if z = x then m₀ z else m z) hk (fun z h2 h3 => by
    by_cases e : z = x
    · rw [if_pos e]
    · rw [if_neg e]; exact h z e h2 h3) z h2 h3 |> fun e => by
      by_cases hz : z = k
      · rw [if_pos hz] at e ⊢; exact e
      · rw [if_neg hz] at e ⊢; rw [if_neg h1] at e; exact e
theorem same_kstF {x : Str} {u m₀ : Str → Option Value} {qs ps : List (Str × Value)} {stored : List Str} {v : Option Value} (hq : qs.map (·.1) = ps.map (·.1)) :
    ∀ z, z ≠ x → (∀ p ∈ ps, z ≠ p.1) → stored.contains z = false → (if z = x then v else kstB (fun z => if stored.contains z then u z else m₀ z) qs z) = m₀ z := by
  intro z h1 h2 h3
  rw [if_neg h1]
  exact same_kst hq z h2 h3
theorem numTold_le (ds : List Nat) : ∀ a, a ≤ 65530 → ds.foldl (fun f c => min (10 * f + (c - 48)) 65530) a ≤ 65530 := by
  induction ds with
  | nil => exact fun a h => h
  | cons d ds ih => intro a _; exact ih _ (Nat.min_le_right _ _)
theorem kcodes_nat (x : Str) : (KStt.codes x).map Int.toNat = codes x := by
  unfold KStt.codes
  rw [List.map_map]
  exact (List.map_congr_left (g := _root_.id) fun c _ => Int.toNat_natCast c).trans (List.map_id _)

noncomputable abbrev blank : Nat → Bool := (· == 32)
/-- the spots that a row of numbers names: the place b is behind the blanks; at is where the row has come to -/
noncomputable def gatherF (cs : List Nat) : Nat → Nat → Nat → List (Nat × Nat) × Nat
  | 0, _, a => ([], a)
  | n + 1, b, a =>
  if b < runEnd isFig cs b ∧ (runEnd isFig cs b = cs.length ∨ isWord (cs.getD (runEnd isFig cs b) 0) = false) then
    if runEnd blank cs (runEnd isFig cs b) < cs.length ∧ cs.getD (runEnd blank cs (runEnd isFig cs b)) 0 = 44 then
      ((b, runEnd isFig cs b) :: (gatherF cs n (runEnd blank cs (runEnd blank cs (runEnd isFig cs b) + 1)) (runEnd isFig cs b)).1,
        (gatherF cs n (runEnd blank cs (runEnd blank cs (runEnd isFig cs b) + 1)) (runEnd isFig cs b)).2)
    else ([(b, runEnd isFig cs b)], runEnd isFig cs b)
  else ([], a)
@[irreducible] noncomputable def gather (cs : List Nat) (b a : Nat) : List (Nat × Nat) × Nat := gatherF cs (cs.length - b) b a
theorem gatherF_end {cs : List Nat} {b a : Nat} (h : ¬ b < cs.length) : ∀ n, gatherF cs n b a = ([], a)
  | 0 => rfl
  | _ + 1 => if_neg (by rw [runEnd_end h]; omega)
theorem gather_next {cs : List Nat} {b : Nat} (hb : b < cs.length) : b < runEnd blank cs (runEnd blank cs (runEnd isFig cs b) + 1) ∨ ¬ runEnd blank cs (runEnd isFig cs b) < cs.length := by
  have h4 := runEnd_ge (p := isFig) (cs := cs) (i := b) (by omega)
  have h5 := runEnd_ge (p := blank) (cs := cs) (i := runEnd isFig cs b) (runEnd_len (by omega))
  by_cases h : runEnd blank cs (runEnd isFig cs b) < cs.length
  · have h6 := runEnd_ge (p := blank) (cs := cs) (i := runEnd blank cs (runEnd isFig cs b) + 1) h
    omega
  · exact .inr h
theorem gatherF_fuel {cs : List Nat} : ∀ {n m b a : Nat}, cs.length - b ≤ n → cs.length - b ≤ m → gatherF cs n b a = gatherF cs m b a := by
  intro n
  induction n with
  | zero => intro m b a h _; rw [gatherF_end (by omega), gatherF_end (by omega)]
  | succ n ih =>
    intro m b a h h'
    cases m with
    | zero => rw [gatherF_end (by omega), gatherF_end (by omega)]
    | succ m =>
      by_cases hb : b < cs.length
      · simp only [gatherF.eq_2]
        rcases gather_next hb with h1 | h1
        · rw [ih (m := m) (by omega) (by omega)]
        · have e : ∀ {u v w z : List (Nat × Nat) × Nat}, (if b < runEnd isFig cs b ∧ (runEnd isFig cs b = cs.length ∨ isWord (cs.getD (runEnd isFig cs b) 0) = false) then
              (if runEnd blank cs (runEnd isFig cs b) < cs.length ∧ cs.getD (runEnd blank cs (runEnd isFig cs b)) 0 = 44 then u else w) else z) =
              if b < runEnd isFig cs b ∧ (runEnd isFig cs b = cs.length ∨ isWord (cs.getD (runEnd isFig cs b) 0) = false) then
              (if runEnd blank cs (runEnd isFig cs b) < cs.length ∧ cs.getD (runEnd blank cs (runEnd isFig cs b)) 0 = 44 then v else w) else z := by
            intro u v w z
            rw [if_neg (fun q => h1 q.1 : ¬ (runEnd blank cs (runEnd isFig cs b) < cs.length ∧ _)), if_neg (fun q => h1 q.1 : ¬ (runEnd blank cs (runEnd isFig cs b) < cs.length ∧ _))]
          exact e
      · rw [gatherF_end hb, gatherF_end hb]
theorem gather_no {cs : List Nat} {b a : Nat} (h : ¬ (b < runEnd isFig cs b ∧ (runEnd isFig cs b = cs.length ∨ isWord (cs.getD (runEnd isFig cs b) 0) = false))) : gather cs b a = ([], a) := by
  unfold gather
  rw [gatherF_fuel (m := (cs.length - b) + 1) (by omega) (by omega)]
  exact if_neg h
theorem gather_one {cs : List Nat} {b a : Nat} (h : b < runEnd isFig cs b ∧ (runEnd isFig cs b = cs.length ∨ isWord (cs.getD (runEnd isFig cs b) 0) = false))
    (h2 : ¬ (runEnd blank cs (runEnd isFig cs b) < cs.length ∧ cs.getD (runEnd blank cs (runEnd isFig cs b)) 0 = 44)) : gather cs b a = ([(b, runEnd isFig cs b)], runEnd isFig cs b) := by
  unfold gather
  rw [gatherF_fuel (m := (cs.length - b) + 1) (by omega) (by omega), gatherF.eq_2, if_pos h, if_neg h2]
theorem gather_more {cs : List Nat} {b a : Nat} (h : b < runEnd isFig cs b ∧ (runEnd isFig cs b = cs.length ∨ isWord (cs.getD (runEnd isFig cs b) 0) = false))
    (h2 : runEnd blank cs (runEnd isFig cs b) < cs.length ∧ cs.getD (runEnd blank cs (runEnd isFig cs b)) 0 = 44) :
    gather cs b a = ((b, runEnd isFig cs b) :: (gather cs (runEnd blank cs (runEnd blank cs (runEnd isFig cs b) + 1)) (runEnd isFig cs b)).1, (gather cs (runEnd blank cs (runEnd blank cs (runEnd isFig cs b) + 1)) (runEnd isFig cs b)).2) := by
  have hb : b < cs.length := Nat.lt_of_not_le fun q => by have := runEnd_end (p := isFig) (cs := cs) (i := b) (by omega); omega
  have h3 := (gather_next hb).resolve_right (fun q => q h2.1)
  unfold gather
  rw [gatherF_fuel (m := (cs.length - b - 1) + 1) (by omega) (by omega), gatherF.eq_2, if_pos h, if_pos h2,
    gatherF_fuel (n := cs.length - b - 1) (m := cs.length - runEnd blank cs (runEnd blank cs (runEnd isFig cs b) + 1)) (by omega) (by omega)]
noncomputable abbrev spotD (p : Nat × Nat) : Dat := .tuple [.int p.1, .int p.2]

/-- the text from a up to b -/
noncomputable def cut (x : Str) (a b : Nat) : Str := ⟨(((codes x).drop a).take (b - a)).toArray⟩
theorem cut_codes (x : Str) (a b : Nat) : codes (cut x a b) = ((codes x).drop a).take (b - a) := by simp [cut, codes]
theorem slice_cut {x : Str} {a b : Nat} (hab : a ≤ b) (hb : b ≤ x.length) : Txt.slice x (some (a : Int)) (some (b : Int)) = cut x a b := by
  unfold Txt.slice
  split
  · rename_i h
    rw [strSliceIndices_plain hab hb] at h
    simp at h
    have h2 := codes_len x
    have ha : a = 0 := by omega
    subst ha
    refine Str.ext' ?_
    rw [← Array.toList_inj]
    show x.cps.toList = _
    simp only [cut, codes, List.drop_zero]
    rw [List.take_of_length_le (by unfold codes at h2; omega)]
  · refine Str.ext' ?_
    rw [sliced_plain x hab hb]
    rfl
theorem slice_end {x : Str} : Txt.slice x (some (x.length : Int)) (some ((x.length : Int) + 1)) = ⟨#[]⟩ := by
  have e : Builtin.Str.strSliceIndices (some (x.length : Int)) (some ((x.length : Int) + 1)) 1 x.length = [] := by
    have h1 : ¬ ((x.length : Int) < 0) := by omega
    have h2 : ¬ ((x.length : Int) + 1 < 0) := by omega
    have e2 : max (0 : Int) (min ((x.length : Int) + 1) (x.length : Int)) = x.length := by omega
    have e1 : max (0 : Int) (min ((x.length : Int)) (x.length : Int)) = x.length := by omega
    simp [Builtin.Str.strSliceIndices, sliceRange, h1, h2, e2]
  unfold Txt.slice
  rw [e]
  split
  · rename_i h
    simp at h
    refine Str.ext' ?_
    have : x.cps.size = 0 := h.symm
    simpa using this
  · rfl
theorem slice_from {x : Str} {a : Nat} (ha : a ≤ x.length) : Txt.slice x (some (a : Int)) none = cut x a x.length := by
  rw [← slice_cut ha (Nat.le_refl _)]
  have e : Builtin.Str.strSliceIndices (some (a : Int)) none 1 x.length = Builtin.Str.strSliceIndices (some (a : Int)) (some (x.length : Int)) 1 x.length := by
    have h2 : ¬ ((x.length : Int) < 0) := by omega
    simp [Builtin.Str.strSliceIndices, sliceRange, h2]
  unfold Txt.slice
  rw [e]
theorem slice_comma {x : Str} {a : Nat} (ha : a ≤ x.length) : (Txt.slice x (some (a : Int)) (some ((a : Int) + 1)) != Str.ofString ",") = !(decide (a < (codes x).length) && (codes x).getD a 0 == 44) := by
  have hl := codes_len x
  by_cases h : a < x.length
  · have e : Txt.slice x (some (a : Int)) (some ((a : Int) + 1)) = cut x a (a + 1) := slice_cut (b := a + 1) (by omega) (by omega)
    have e2 : cut x a (a + 1) = ⟨#[(codes x).getD a 0]⟩ := by
      refine Str.ext' ?_
      rw [← Array.toList_inj]
      show ((codes x).drop a).take (a + 1 - a) = [(codes x).getD a 0]
      rw [show a + 1 - a = 1 by omega, List.drop_eq_getElem_cons (by omega)]
      simp [List.getD, hl, h]
    rw [e, e2, co_str, bne, one_eq]
    simp [hl, h]
  · have : a = x.length := by omega
    subst this
    rw [slice_end, co_str]
    simp [hl]

theorem spot_snoc {tl : List (Addr × Obj)} {ws : List Value} {done : List (Nat × Nat)} (hD : DatAll tl ws (done.map spotD)) (D : Addr) (b e : Nat) (tb te : Tok) (nn : Nat) :
    DatAll ((D, ({ cls := .type "tuple", data := .seq #[.int b tb, .int e te] nn } : Obj)) :: tl) (ws ++ [.ref D]) ((done ++ [(b, e)]).map spotD) := by
  rw [List.map_append]
  refine DatAll.append (DatAll.mono (fun p hp => List.mem_cons_of_mem _ hp) hD) (DatAll.one ?_)
  exact DatIn.tuple (vs := [.int b tb, .int e te]) List.mem_cons_self (DatAll.cons (DatIn.int (b : Nat) tb) (DatAll.cons (DatIn.int (e : Nat) te) DatAll.nil))
theorem news_sub {h₀ h : Heap} {L : Addr} {a b : List (Addr × Obj)} (N : News h₀ L h a) (hs : ∀ p ∈ b, p ∈ a) : News h₀ L h b := fun p hp => N p (hs p hp)
theorem swap_sub {α : Type} {a b : α} {t : List α} : ∀ p ∈ a :: b :: t, p ∈ b :: a :: t := by
  intro p hp
  rcases List.mem_cons.mp hp with rfl | hp
  · exact List.mem_cons_of_mem _ List.mem_cons_self
  · rcases List.mem_cons.mp hp with rfl | hp
    · exact List.mem_cons_self
    · exact List.mem_cons_of_mem _ (List.mem_cons_of_mem _ hp)

theorem comma_no {A : Prop} [Decidable A] {v : Nat} (h : (!(decide A && (v == 44))) = true) : ¬ (A ∧ v = 44) := by
  rintro ⟨a, rfl⟩; simp [a] at h
theorem comma_yes {A : Prop} [Decidable A] {v : Nat} (h : (!(decide A && (v == 44))) = false) : A ∧ v = 44 := by
  simpa using h

/-- an ASCII letter's capital -/
noncomputable def up1 (c : Nat) : Nat := if 97 ≤ c && c ≤ 122 then c - 32 else c
/-- the word from b up to e, in capitals -/
noncomputable def wordOf (cs : List Nat) (b e : Nat) : List Nat := ((cs.drop b).take (e - b)).map up1
noncomputable def wREM : List Nat := [82, 69, 77]
noncomputable def wDATA : List Nat := [68, 65, 84, 65]
noncomputable def wRESUME : List Nat := [82, 69, 83, 85, 77, 69]
noncomputable def wGOTO : List Nat := [71, 79, 84, 79]
noncomputable def wERROR : List Nat := [69, 82, 82, 79, 82]
noncomputable def wLEAD : List (List Nat) := [wGOTO, [71, 79, 83, 85, 66], [84, 72, 69, 78], [69, 76, 83, 69], [82, 69, 83, 84, 79, 82, 69], wRESUME, [82, 69, 84, 85, 82, 78]]
/-- the number at a spot -/
noncomputable def numAt (cs : List Nat) (p : Nat × Nat) : Nat := numTold ((cs.drop p.1).take (p.2 - p.1))
noncomputable def told (cs : List Nat) : Nat → Nat → List Nat → List (Nat × Nat)
  | 0, _, _ => []
  | k + 1, a, ahead =>
    if a < cs.length then
      if cs.getD a 0 = 34 then told cs k (quoteEnd cs a) []
      else if cs.getD a 0 = 39 then []
      else if isWord (cs.getD a 0) then
        if wordOf cs a (runEnd isWord cs a) = wREM then []
        else if wLEAD.contains (wordOf cs a (runEnd isWord cs a)) then
          (if wordOf cs a (runEnd isWord cs a) = wRESUME ∨ (wordOf cs a (runEnd isWord cs a) = wGOTO ∧ ahead = wERROR)
            then (gather cs (runEnd blank cs (runEnd isWord cs a)) (runEnd isWord cs a)).1.filter (fun p => numAt cs p != 0)
            else (gather cs (runEnd blank cs (runEnd isWord cs a)) (runEnd isWord cs a)).1)
          ++ told cs k (gather cs (runEnd blank cs (runEnd isWord cs a)) (runEnd isWord cs a)).2 (wordOf cs a (runEnd isWord cs a))
        else told cs k (if wordOf cs a (runEnd isWord cs a) = wDATA then dataEnd cs (runEnd isWord cs a) else runEnd isWord cs a) (wordOf cs a (runEnd isWord cs a))
      else told cs k (a + 1) (if cs.getD a 0 = 32 then ahead else [])
    else []

theorem gather_len {cs : List Nat} : ∀ {n b a : Nat}, cs.length - b = n → a ≤ b → b ≤ cs.length → a + (gather cs b a).1.length ≤ (gather cs b a).2 ∧ (gather cs b a).2 ≤ cs.length := by
  intro n
  induction n using Nat.strongRecOn with
  | _ n ih =>
    intro b a hn hab hb
    have he := runEnd_len (p := isFig) (cs := cs) (i := b) hb
    by_cases h : b < runEnd isFig cs b ∧ (runEnd isFig cs b = cs.length ∨ isWord (cs.getD (runEnd isFig cs b) 0) = false)
    · by_cases h2 : runEnd blank cs (runEnd isFig cs b) < cs.length ∧ cs.getD (runEnd blank cs (runEnd isFig cs b)) 0 = 44
      · have h5 := runEnd_ge (p := blank) (cs := cs) (i := runEnd isFig cs b) he
        have h6 := runEnd_ge (p := blank) (cs := cs) (i := runEnd blank cs (runEnd isFig cs b) + 1) h2.1
        have h7 := runEnd_len (p := blank) (cs := cs) (i := runEnd blank cs (runEnd isFig cs b) + 1) h2.1
        have hi := ih (cs.length - runEnd blank cs (runEnd blank cs (runEnd isFig cs b) + 1)) (fuel_lt' hn (Nat.lt_of_lt_of_le h.1 he) (Nat.lt_of_lt_of_le h.1 (Nat.le_trans h5 (Nat.le_of_succ_le h6)))) (b := runEnd blank cs (runEnd blank cs (runEnd isFig cs b) + 1)) (a := runEnd isFig cs b) rfl (Nat.le_trans h5 (Nat.le_of_succ_le h6)) h7
        rw [gather_more h h2]
        exact ⟨Nat.le_trans (by rw [List.length_cons, ← Nat.add_assoc, Nat.add_right_comm]; exact Nat.add_le_add_right (Nat.lt_of_le_of_lt hab h.1) _) hi.1, hi.2⟩
      · rw [gather_one h h2]
        exact ⟨Nat.lt_of_le_of_lt hab h.1, he⟩
    · rw [gather_no h]
      exact ⟨Nat.le_refl _, Nat.le_trans hab hb⟩

theorem told_end {cs : List Nat} {k a : Nat} {ah : List Nat} (h : ¬ a < cs.length) : told cs k a ah = [] := by
  cases k with
  | zero => rfl
  | succ k => rw [told.eq_2, if_neg h]
theorem told_quote {cs : List Nat} {k a : Nat} {ah : List Nat} (h : a < cs.length) (hc : cs.getD a 0 = 34) : told cs (k + 1) a ah = told cs k (quoteEnd cs a) [] := by
  rw [told.eq_2, if_pos h, if_pos hc]
theorem told_remark {cs : List Nat} {k a : Nat} {ah : List Nat} (hc : cs.getD a 0 = 39) : told cs k a ah = [] := by
  cases k with
  | zero => rfl
  | succ k =>
    by_cases h : a < cs.length
    · rw [told.eq_2, if_pos h, if_neg (by omega), if_pos hc]
    · exact told_end h
theorem told_sign {cs : List Nat} {k a : Nat} {ah : List Nat} (h : a < cs.length) (h1 : cs.getD a 0 ≠ 34) (h2 : cs.getD a 0 ≠ 39) (h3 : isWord (cs.getD a 0) = false) :
    told cs (k + 1) a ah = told cs k (a + 1) (if cs.getD a 0 = 32 then ah else []) := by
  rw [told.eq_2, if_pos h, if_neg h1, if_neg h2, if_neg (by rw [h3]; exact Bool.false_ne_true)]
theorem told_rem {cs : List Nat} {k a : Nat} {ah : List Nat} (h3 : isWord (cs.getD a 0) = true) (hw : wordOf cs a (runEnd isWord cs a) = wREM) : told cs k a ah = [] := by
  cases k with
  | zero => rfl
  | succ k =>
    by_cases h : a < cs.length
    · by_cases h1 : cs.getD a 0 = 34
      · rw [h1] at h3; exact absurd h3 (by decide)
      · by_cases h2 : cs.getD a 0 = 39
        · exact told_remark h2
        · rw [told.eq_2, if_pos h, if_neg h1, if_neg h2, if_pos h3, if_pos hw]
    · exact told_end h
theorem told_word {cs : List Nat} {k a : Nat} {ah : List Nat} (h : a < cs.length) (h3 : isWord (cs.getD a 0) = true) (hw : wordOf cs a (runEnd isWord cs a) ≠ wREM) (hl : wLEAD.contains (wordOf cs a (runEnd isWord cs a)) = false) :
    told cs (k + 1) a ah = told cs k (if wordOf cs a (runEnd isWord cs a) = wDATA then dataEnd cs (runEnd isWord cs a) else runEnd isWord cs a) (wordOf cs a (runEnd isWord cs a)) := by
  have h1 : cs.getD a 0 ≠ 34 := fun e => by rw [e] at h3; exact absurd h3 (by decide)
  have h2 : cs.getD a 0 ≠ 39 := fun e => by rw [e] at h3; exact absurd h3 (by decide)
  rw [told.eq_2, if_pos h, if_neg h1, if_neg h2, if_pos h3, if_neg hw, if_neg (by rw [hl]; exact Bool.false_ne_true)]
theorem told_lead {cs : List Nat} {k a : Nat} {ah : List Nat} (h : a < cs.length) (h3 : isWord (cs.getD a 0) = true) (hw : wordOf cs a (runEnd isWord cs a) ≠ wREM) (hl : wLEAD.contains (wordOf cs a (runEnd isWord cs a)) = true) :
    told cs (k + 1) a ah = (if wordOf cs a (runEnd isWord cs a) = wRESUME ∨ (wordOf cs a (runEnd isWord cs a) = wGOTO ∧ ah = wERROR)
            then (gather cs (runEnd blank cs (runEnd isWord cs a)) (runEnd isWord cs a)).1.filter (fun p => numAt cs p != 0)
            else (gather cs (runEnd blank cs (runEnd isWord cs a)) (runEnd isWord cs a)).1)
          ++ told cs k (gather cs (runEnd blank cs (runEnd isWord cs a)) (runEnd isWord cs a)).2 (wordOf cs a (runEnd isWord cs a)) := by
  have h1 : cs.getD a 0 ≠ 34 := fun e => by rw [e] at h3; exact absurd h3 (by decide)
  have h2 : cs.getD a 0 ≠ 39 := fun e => by rw [e] at h3; exact absurd h3 (by decide)
  rw [told.eq_2, if_pos h, if_neg h1, if_neg h2, if_pos h3, if_neg hw, if_pos hl]
theorem codes_empty : codes (Str.ofString "") = [] := by decide

theorem runEnd_all {p : Nat → Bool} {cs : List Nat} : ∀ {n i : Nat}, cs.length - i = n → ∀ v, i ≤ v → v < runEnd p cs i → p (cs.getD v 0) = true := by
  intro n
  induction n with
  | zero => intro i h v h1 h2; rw [runEnd_end (by omega)] at h2; omega
  | succ n ih =>
    intro i h v h1 h2
    cases hp : p (cs.getD i 0) with
    | false => rw [runEnd_stop hp] at h2; omega
    | true =>
      rw [runEnd_go (by omega) hp] at h2
      by_cases hv : v = i
      · rw [hv]; exact hp
      · exact ih (by omega) v (by omega) h2
theorem run_all {p : Nat → Bool} {cs : List Nat} {i : Nat} (hi : i ≤ cs.length) : ∀ c ∈ (cs.drop i).take (runEnd p cs i - i), p c = true := by
  intro c hc
  obtain ⟨j, hj⟩ := List.getElem?_of_mem hc
  have hle := runEnd_len (p := p) hi
  rw [List.getElem?_take] at hj
  split at hj
  · rename_i hlt
    rw [List.getElem?_drop] at hj
    have := runEnd_all (p := p) (cs := cs) (i := i) rfl (i + j) (by omega) (by omega)
    rw [List.getD, hj] at this
    exact this
  · cases hj
theorem word_ascii {c : Nat} (h : isWord c = true) : c < 128 := by
  simp [isWord, isFig] at h
  omega
theorem upper_ascii : ((List.range 128).all fun c => Unicode.upperOf c == [up1 c]) = true := by decide +kernel
theorem upper_codes {x : Str} (h : ∀ c ∈ codes x, c < 128) : codes (Txt.upper x) = (codes x).map up1 := by
  have : placed x (fun _ c => Unicode.upperOf c) = x.cps.map up1 := placed_single x _ up1 fun i c hc => by
    have hm : c ∈ codes x := List.mem_of_getElem? hc
    have := List.all_eq_true.mp upper_ascii c (List.mem_range.mpr (h c hm))
    simpa using this
  show (placed x (fun _ c => Unicode.upperOf c)).toList = _
  rw [this]
  simp [codes]
theorem upper_word {x : Str} {a : Nat} (ha : a ≤ x.length) : codes (Txt.upper (Txt.slice x (some (a : Int)) (some (runEnd isWord (codes x) a : Int)))) = wordOf (codes x) a (runEnd isWord (codes x) a) := by
  have hl := codes_len x
  rw [slice_cut (runEnd_ge (by omega)) (by have := runEnd_len (p := isWord) (cs := codes x) (i := a) (by omega); omega), upper_codes]
  · rw [cut_codes]; rfl
  · intro c hc
    rw [cut_codes] at hc
    exact word_ascii (run_all (p := isWord) (by omega) c hc)
theorem beq_codes (s t : Str) : (s == t) = (codes s == codes t) := by
  rw [Bool.eq_iff_iff, beq_iff_eq, beq_iff_eq]
  constructor
  · rintro rfl; rfl
  · exact fun h => Str.ext' (Array.toList_inj.mp h)
theorem c_REM : codes (Str.ofString "REM") = wREM := by decide
theorem c_DATA : codes (Str.ofString "DATA") = wDATA := by decide
theorem c_RESUME : codes (Str.ofString "RESUME") = wRESUME := by decide
theorem c_GOTO : codes (Str.ofString "GOTO") = wGOTO := by decide
theorem c_ERROR : codes (Str.ofString "ERROR") = wERROR := by decide
noncomputable def leading : List Str := [Str.ofString "GOTO", Str.ofString "GOSUB", Str.ofString "THEN", Str.ofString "ELSE", Str.ofString "RESTORE", Str.ofString "RESUME", Str.ofString "RETURN"]
theorem lead_codes : leading.map codes = wLEAD := by decide
theorem lead_any (s : Str) : (leading.any (· == s)) = wLEAD.contains (codes s) := by
  rw [← lead_codes, Bool.eq_iff_iff, List.any_eq_true, List.contains_iff_mem, List.mem_map]
  constructor
  · rintro ⟨y, hy, e⟩
    exact ⟨y, hy, by rw [beq_iff_eq.mp e]⟩
  · rintro ⟨y, hy, e⟩
    exact ⟨y, hy, by rw [beq_codes, e]; exact beq_self_eq_true _⟩
theorem strs_lead (a b c d e f g : Tok) : StrsAre [.str (Str.ofString "GOTO") a, .str (Str.ofString "GOSUB") b, .str (Str.ofString "THEN") c, .str (Str.ofString "ELSE") d, .str (Str.ofString "RESTORE") e, .str (Str.ofString "RESUME") f, .str (Str.ofString "RETURN") g] leading :=
  .cons _ _ (.cons _ _ (.cons _ _ (.cons _ _ (.cons _ _ (.cons _ _ (.cons _ _ .nil))))))

theorem dataEnd_ge' {cs : List Nat} : ∀ {n i : Nat}, cs.length - i = n → i ≤ cs.length → i ≤ dataEnd cs i ∧ dataEnd cs i ≤ cs.length := by
  intro n
  induction n using Nat.strongRecOn with
  | _ n ih =>
    intro i hn hi
    by_cases h : i < cs.length
    · by_cases h1 : cs.getD i 0 = 58
      · rw [dataEnd_stop h1]; exact ⟨Nat.le_refl _, hi⟩
      · by_cases h2 : cs.getD i 0 = 34
        · have hq := quoteEnd_gt h
          have hq' := quoteEnd_len cs i
          have := ih (cs.length - quoteEnd cs i) (fuel_lt' hn h hq) rfl hq'
          rw [dataEnd_quote h h2]; exact ⟨Nat.le_trans (Nat.le_of_lt hq) this.1, this.2⟩
        · have := ih (cs.length - (i + 1)) (fuel_lt' hn h (Nat.lt_succ_self _)) rfl h
          rw [dataEnd_go h h1 h2]; exact ⟨Nat.le_of_succ_le this.1, this.2⟩
    · rw [dataEnd_end h]; exact ⟨Nat.le_refl _, hi⟩
theorem dataEnd_ge {cs : List Nat} {i : Nat} (hi : i ≤ cs.length) : i ≤ dataEnd cs i ∧ dataEnd cs i ≤ cs.length := dataEnd_ge' rfl hi

theorem mid_front {α : Type} {a b : α} {t2 t : List α} : ∀ p ∈ b :: a :: (t2 ++ t), p ∈ a :: (t2 ++ b :: t) := by
  intro p hp
  simp only [List.mem_cons, List.mem_append] at hp ⊢
  rcases hp with h | h | h | h <;> simp only [h, true_or, or_true]
theorem mid_back {α : Type} {a b : α} {t2 t : List α} : ∀ p ∈ (a :: t2) ++ b :: t, p ∈ b :: a :: (t2 ++ t) := by
  intro p hp
  simp only [List.mem_cons, List.mem_append, List.cons_append] at hp ⊢
  rcases hp with h | h | h | h <;> simp only [h, true_or, or_true]

/-- a place of a number: figures alone -/
noncomputable def Spot (cs : List Nat) (p : Nat × Nat) : Prop := p.1 < p.2 ∧ p.2 ≤ cs.length ∧ ∀ c ∈ (cs.drop p.1).take (p.2 - p.1), isFig c = true
theorem gather_ok {cs : List Nat} : ∀ {n b a : Nat}, cs.length - b = n → b ≤ cs.length → ∀ p ∈ (gather cs b a).1, Spot cs p := by
  intro n
  induction n using Nat.strongRecOn with
  | _ n ih =>
    intro b a hn hb p hp
    have he := runEnd_len (p := isFig) (cs := cs) (i := b) hb
    by_cases h : b < runEnd isFig cs b ∧ (runEnd isFig cs b = cs.length ∨ isWord (cs.getD (runEnd isFig cs b) 0) = false)
    · have h0 : Spot cs (b, runEnd isFig cs b) := ⟨h.1, he, run_all hb⟩
      by_cases h2 : runEnd blank cs (runEnd isFig cs b) < cs.length ∧ cs.getD (runEnd blank cs (runEnd isFig cs b)) 0 = 44
      · have h5 := runEnd_ge (p := blank) (cs := cs) (i := runEnd isFig cs b) he
        have h6 := runEnd_ge (p := blank) (cs := cs) (i := runEnd blank cs (runEnd isFig cs b) + 1) h2.1
        have h7 := runEnd_len (p := blank) (cs := cs) (i := runEnd blank cs (runEnd isFig cs b) + 1) h2.1
        rw [gather_more h h2] at hp
        rcases List.mem_cons.mp hp with rfl | hp
        · exact h0
        · exact ih (cs.length - runEnd blank cs (runEnd blank cs (runEnd isFig cs b) + 1)) (fuel_lt' hn (Nat.lt_of_lt_of_le h.1 he) (Nat.lt_of_lt_of_le h.1 (Nat.le_trans h5 (Nat.le_of_succ_le h6)))) rfl h7 p hp
      · rw [gather_one h h2] at hp
        rw [List.mem_singleton.mp hp]; exact h0
    · rw [gather_no h] at hp; cases hp
theorem told_ok {cs : List Nat} : ∀ {k a : Nat} {ah : List Nat}, a ≤ cs.length → ∀ p ∈ told cs k a ah, Spot cs p := by
  intro k
  induction k with
  | zero => intro a ah _ p hp; cases hp
  | succ k ih =>
    intro a ah ha p hp
    by_cases h : a < cs.length
    · by_cases h1 : cs.getD a 0 = 34
      · rw [told_quote h h1] at hp; exact ih (quoteEnd_len _ _) p hp
      · by_cases h2 : cs.getD a 0 = 39
        · rw [told_remark h2] at hp; cases hp
        · cases h3 : isWord (cs.getD a 0) with
          | false => rw [told_sign h h1 h2 h3] at hp; exact ih (by omega) p hp
          | true =>
            have hwl := runEnd_len (p := isWord) (cs := cs) (i := a) ha
            by_cases hw : wordOf cs a (runEnd isWord cs a) = wREM
            · rw [told_rem h3 hw] at hp; cases hp
            · have hbl := runEnd_len (p := blank) (cs := cs) (i := runEnd isWord cs a) hwl
              have hbg := runEnd_ge (p := blank) (cs := cs) (i := runEnd isWord cs a) hwl
              cases hl : wLEAD.contains (wordOf cs a (runEnd isWord cs a)) with
              | false =>
                rw [told_word h h3 hw hl] at hp
                refine ih ?_ p hp
                split
                · exact (dataEnd_ge hwl).2
                · exact hwl
              | true =>
                rw [told_lead h h3 hw hl] at hp
                rcases List.mem_append.mp hp with hp | hp
                · refine gather_ok rfl hbl p ?_ (a := runEnd isWord cs a)
                  split at hp
                  · exact (List.mem_filter.mp hp).1
                  · exact hp
                · exact ih (gather_len rfl hbg hbl).2 p hp
    · rw [told_end h] at hp; cases hp
theorem datAll_cons {own : List (Addr × Obj)} {vs : List Value} {d : Dat} {ds : List Dat} (h : DatAll own vs (d :: ds)) : ∃ v vs', vs = v :: vs' ∧ DatIn own v d ∧ DatAll own vs' ds := by
  cases h with | cons a b => exact ⟨_, _, rfl, a, b⟩
theorem datAll_nil {own : List (Addr × Obj)} {vs : List Value} (h : DatAll own vs []) : vs = [] := by cases h; rfl
theorem datIn_int {own : List (Addr × Obj)} {v : Value} {k : Int} (h : DatIn own v (.int k)) : ∃ t, v = .int k t := by cases h; exact ⟨_, rfl⟩
theorem datIn_str {own : List (Addr × Obj)} {v : Value} {k : Str} (h : DatIn own v (.str k)) : ∃ t, v = .str k t := by cases h; exact ⟨_, rfl⟩
theorem datIn_tuple {own : List (Addr × Obj)} {v : Value} {ds : List Dat} (h : DatIn own v (.tuple ds)) : ∃ (a : Addr) (vs : List Value) (nn : Nat), v = .ref a ∧ (a, ({ cls := .type "tuple", data := .seq vs.toArray nn } : Obj)) ∈ own ∧ DatAll own vs ds := by
  cases h with | tuple hm hr => exact ⟨_, _, _, rfl, hm, hr⟩
theorem dat_at {own : List (Addr × Obj)} : ∀ {ds : List Dat} {vs : List Value}, DatAll own vs ds → ∀ {i : Nat} {v : Value}, vs[i]? = some v → ∃ d, ds[i]? = some d ∧ DatIn own v d
  | [], vs, h, i, v, hv => by rw [datAll_nil h] at hv; cases hv
  | d :: ds, vs, h, i, v, hv => by
    obtain ⟨w, ws, rfl, h1, h2⟩ := datAll_cons h
    cases i with
    | zero => cases hv; exact ⟨d, rfl, h1⟩
    | succ i => exact dat_at h2 hv
theorem spot_at {own : List (Addr × Obj)} {sp : List (Nat × Nat)} {vs : List Value} (h : DatAll own vs (sp.map spotD)) {i : Nat} {v : Value} (hv : vs[i]? = some v) : ∃ p, sp[i]? = some p ∧ ∃ (a : Addr) (tb te : Tok) (nn : Nat), v = .ref a ∧ (a, ({ cls := .type "tuple", data := .seq #[.int p.1 tb, .int p.2 te] nn } : Obj)) ∈ own := by
  obtain ⟨d, hd, hi⟩ := dat_at h hv
  rw [List.getElem?_map] at hd
  obtain ⟨p, hp, rfl⟩ := Option.map_eq_some_iff.mp hd
  obtain ⟨a, us, nn, rfl, hm, hr⟩ := datIn_tuple hi
  obtain ⟨u1, us, rfl, a1, hr⟩ := datAll_cons hr
  obtain ⟨u2, us, rfl, a2, hr⟩ := datAll_cons hr
  obtain rfl := datAll_nil hr
  obtain ⟨t1, rfl⟩ := datIn_int a1
  obtain ⟨t2, rfl⟩ := datIn_int a2
  exact ⟨p, hp, a, t1, t2, nn, rfl, hm⟩

theorem told_nat {X G T r e a L : Nat} (hX : X ≤ G) (h1 : r + G ≤ e) (h2 : T + e ≤ L) (ha : a ≤ r) : X + T + a ≤ L := by omega
theorem told_len {cs : List Nat} : ∀ {k a : Nat} {ah : List Nat}, a ≤ cs.length → (told cs k a ah).length + a ≤ cs.length := by
  intro k
  induction k with
  | zero => intro a ah h; simpa [told] using h
  | succ k ih =>
    intro a ah ha
    by_cases h : a < cs.length
    · by_cases h1 : cs.getD a 0 = 34
      · have h4 := ih (ah := []) (quoteEnd_len cs a)
        have h5 := quoteEnd_gt h
        rw [told_quote h h1]; exact Nat.le_trans (Nat.add_le_add_left (Nat.le_of_lt h5) _) h4
      · by_cases h2 : cs.getD a 0 = 39
        · rw [told_remark h2]; rw [List.length_nil, Nat.zero_add]; exact ha
        · cases h3 : isWord (cs.getD a 0) with
          | false =>
            have := ih (a := a + 1) (ah := if cs.getD a 0 = 32 then ah else []) h
            rw [told_sign h h1 h2 h3]; exact Nat.le_of_succ_le this
          | true =>
            have hwl := runEnd_len (p := isWord) (cs := cs) (i := a) ha
            have hwg := runEnd_ge (p := isWord) (cs := cs) (i := a) ha
            by_cases hw : wordOf cs a (runEnd isWord cs a) = wREM
            · rw [told_rem h3 hw]; rw [List.length_nil, Nat.zero_add]; exact ha
            · have hbl := runEnd_len (p := blank) (cs := cs) (i := runEnd isWord cs a) hwl
              have hbg := runEnd_ge (p := blank) (cs := cs) (i := runEnd isWord cs a) hwl
              cases hl : wLEAD.contains (wordOf cs a (runEnd isWord cs a)) with
              | false =>
                rw [told_word h h3 hw hl]
                have hd := dataEnd_ge hwl
                split
                · have := ih (ah := wordOf cs a (runEnd isWord cs a)) hd.2; exact Nat.le_trans (Nat.add_le_add_left (Nat.le_trans hwg hd.1) _) this
                · have := ih (ah := wordOf cs a (runEnd isWord cs a)) hwl; exact Nat.le_trans (Nat.add_le_add_left hwg _) this
              | true =>
                rw [told_lead h h3 hw hl, List.length_append]
                have hg := gather_len (cs := cs) rfl hbg hbl
                have h6 := ih (ah := wordOf cs a (runEnd isWord cs a)) hg.2
                split
                · exact told_nat (List.length_filter_le _ _) hg.1 h6 hwg
                · exact told_nat (Nat.le_refl _) hg.1 h6 hwg
    · rw [told_end h]; rw [List.length_nil, Nat.zero_add]; exact ha
theorem spot_slice {x : Str} {p : Nat × Nat} (h : Spot (codes x) p) : Txt.slice x (some (p.1 : Int)) (some (p.2 : Int)) = cut x p.1 p.2 := by
  have := h.1; have := h.2.1; have := codes_len x
  exact slice_cut (by omega) (by omega)
theorem spot_figs {x : Str} {p : Nat × Nat} (h : Spot (codes x) p) : ∀ c ∈ codes (Txt.slice x (some (p.1 : Int)) (some (p.2 : Int))), isFig c = true := by
  rw [spot_slice h, cut_codes]; exact h.2.2
theorem spot_num {x : Str} {p : Nat × Nat} (h : Spot (codes x) p) : numTold (codes (Txt.slice x (some (p.1 : Int)) (some (p.2 : Int)))) = numAt (codes x) p := by
  rw [spot_slice h, cut_codes]; rfl
theorem take_more {α : Type} {l : List α} {i : Nat} {p : α} (h : l[i]? = some p) : l.take (i + 1) = l.take i ++ [p] := by
  rw [List.take_add_one, h]; rfl

theorem kst_of {h₀ h : Heap} {L : Addr} {m : Str → Option Value} (F : Fr h₀ L h m) (ps : List (Str × Value)) (hps : ∀ p ∈ ps, m p.1 = some p.2) : Fr h₀ L h (kstB m ps) := fr_kst ps hps F
end Mine

end

section
open PySem PySem.W PySem.Calls PySem.Spec PyProof.Rows PySem.StrLaws
namespace Mine

/-- the spots lie one behind another from a on, up to c -/
noncomputable def ChainTo : Nat → List (Nat × Nat) → Nat → Prop
  | a, [], c => a ≤ c
  | a, p :: r, c => a ≤ p.1 ∧ p.1 < p.2 ∧ ChainTo p.2 r c
theorem chain_le : ∀ {l : List (Nat × Nat)} {a c : Nat}, ChainTo a l c → a ≤ c
  | [], _, _, h => h
  | p :: r, a, c, h => by have := chain_le h.2.2; have := h.1; have := h.2.1; omega
theorem chain_low {l : List (Nat × Nat)} {a b c : Nat} (hab : a ≤ b) (h : ChainTo b l c) : ChainTo a l c := by
  cases l with
  | nil => exact Nat.le_trans hab h
  | cons p r => exact ⟨Nat.le_trans hab h.1, h.2⟩
theorem chain_app : ∀ {l r : List (Nat × Nat)} {a b c : Nat}, ChainTo a l b → ChainTo b r c → ChainTo a (l ++ r) c
  | [], _, _, _, _, h, h2 => chain_low h h2
  | p :: l, _, _, _, _, h, h2 => ⟨h.1, h.2.1, chain_app h.2.2 h2⟩
theorem chain_filter {q : Nat × Nat → Bool} : ∀ {l : List (Nat × Nat)} {a c : Nat}, ChainTo a l c → ChainTo a (l.filter q) c
  | [], _, _, h => h
  | p :: l, a, c, h => by
    rw [List.filter_cons]
    split
    · exact ⟨h.1, h.2.1, chain_filter h.2.2⟩
    · exact chain_low (by have := h.1; have := h.2.1; omega) (chain_filter h.2.2)

theorem gather_chain {cs : List Nat} : ∀ {n b a : Nat}, cs.length - b = n → a ≤ b → b ≤ cs.length → ChainTo a (gather cs b a).1 (gather cs b a).2 := by
  intro n
  induction n using Nat.strongRecOn with
  | _ n ih =>
    intro b a hn hab hb
    have he := runEnd_len (p := isFig) (cs := cs) (i := b) hb
    by_cases h : b < runEnd isFig cs b ∧ (runEnd isFig cs b = cs.length ∨ isWord (cs.getD (runEnd isFig cs b) 0) = false)
    · by_cases h2 : runEnd blank cs (runEnd isFig cs b) < cs.length ∧ cs.getD (runEnd blank cs (runEnd isFig cs b)) 0 = 44
      · have h5 := runEnd_ge (p := blank) (cs := cs) (i := runEnd isFig cs b) he
        have h6 := runEnd_ge (p := blank) (cs := cs) (i := runEnd blank cs (runEnd isFig cs b) + 1) h2.1
        have h7 := runEnd_len (p := blank) (cs := cs) (i := runEnd blank cs (runEnd isFig cs b) + 1) h2.1
        have hi := ih (cs.length - runEnd blank cs (runEnd blank cs (runEnd isFig cs b) + 1)) (fuel_lt' hn (Nat.lt_of_lt_of_le h.1 he) (Nat.lt_of_lt_of_le h.1 (Nat.le_trans h5 (Nat.le_of_succ_le h6)))) (b := runEnd blank cs (runEnd blank cs (runEnd isFig cs b) + 1)) (a := runEnd isFig cs b) rfl (Nat.le_trans h5 (Nat.le_of_succ_le h6)) h7
        rw [gather_more h h2]
        exact ⟨hab, h.1, hi⟩
      · rw [gather_one h h2]
        exact ⟨hab, h.1, Nat.le_refl _⟩
    · rw [gather_no h]
      exact Nat.le_refl _
theorem told_chain {cs : List Nat} : ∀ {k a : Nat} {ah : List Nat}, a ≤ cs.length → ChainTo a (told cs k a ah) cs.length := by
  intro k
  induction k with
  | zero => intro a ah h; exact h
  | succ k ih =>
    intro a ah ha
    by_cases h : a < cs.length
    · by_cases h1 : cs.getD a 0 = 34
      · have := quoteEnd_gt h
        rw [told_quote h h1]; exact chain_low (by omega) (ih (quoteEnd_len cs a))
      · by_cases h2 : cs.getD a 0 = 39
        · rw [told_remark h2]; exact ha
        · cases h3 : isWord (cs.getD a 0) with
          | false =>
            rw [told_sign h h1 h2 h3]; exact chain_low (by omega) (ih (a := a + 1) (by omega))
          | true =>
            have hwl := runEnd_len (p := isWord) (cs := cs) (i := a) ha
            have hwg := runEnd_ge (p := isWord) (cs := cs) (i := a) ha
            by_cases hw : wordOf cs a (runEnd isWord cs a) = wREM
            · rw [told_rem h3 hw]; exact ha
            · have hbl := runEnd_len (p := blank) (cs := cs) (i := runEnd isWord cs a) hwl
              have hbg := runEnd_ge (p := blank) (cs := cs) (i := runEnd isWord cs a) hwl
              cases hl : wLEAD.contains (wordOf cs a (runEnd isWord cs a)) with
              | false =>
                rw [told_word h h3 hw hl]
                have hd := dataEnd_ge hwl
                split
                · exact chain_low (by omega) (ih hd.2)
                · exact chain_low hwg (ih hwl)
              | true =>
                rw [told_lead h h3 hw hl]
                have hg := gather_len (cs := cs) rfl hbg hbl
                refine chain_app (b := (gather cs (runEnd blank cs (runEnd isWord cs a)) (runEnd isWord cs a)).2) (chain_low hwg ?_) (ih hg.2)
                split
                · exact chain_filter (gather_chain rfl hbg hbl)
                · exact gather_chain rfl hbg hbl
    · rw [told_end h]; exact ha

/-- the new text of a spot -/
noncomputable def newAt (cs : List Nat) (turn : Nat → Option Nat) (p : Nat × Nat) : List Nat :=
  match turn (numAt cs p) with
  | none => (cs.drop p.1).take (p.2 - p.1)
  | some v => codes (Str.ofString (toString (v : Int)))
/-- the text from a on with the new numbers at the spots -/
noncomputable def weave (cs : List Nat) (turn : Nat → Option Nat) : List (Nat × Nat) → Nat → List Nat
  | [], a => cs.drop a
  | p :: r, a => (cs.drop a).take (p.1 - a) ++ newAt cs turn p ++ weave cs turn r p.2
theorem drop_at {α : Type} {l : List α} {i : Nat} {p : α} (h : l[i]? = some p) : l.drop i = p :: l.drop (i + 1) := by
  obtain ⟨h1, h2⟩ := List.getElem?_eq_some_iff.mp h
  rw [List.drop_eq_getElem_cons h1, h2]
theorem codes_app (s t : Str) : codes (s ++ t) = codes s ++ codes t := by
  show (s.cps ++ t.cps).toList = _
  simp [codes]
theorem weave_turn {x f : Str} {turn : Nat → Option Nat} {sp : List (Nat × Nat)} {i a : Nat} {p : Nat × Nat} {R : List Nat} {z : Str} (h : sp[i]? = some p) (hc : ChainTo a (sp.drop i) (codes x).length) (hS : Spot (codes x) p)
    (hR : codes f ++ weave (codes x) turn (sp.drop i) a = R) (hz : codes z = newAt (codes x) turn p) :
    codes (f ++ Txt.slice x (some (a : Int)) (some (p.1 : Int)) ++ z) ++ weave (codes x) turn (sp.drop (i + 1)) p.2 = R ∧ ChainTo p.2 (sp.drop (i + 1)) (codes x).length := by
  rw [drop_at h] at hc hR
  have hl := codes_len x
  have h1 := hc.1
  have h2 := hS.1
  have h3 := hS.2.1
  refine ⟨?_, hc.2.2⟩
  rw [slice_cut h1 (by omega), codes_app, codes_app, hz, cut_codes, ← hR]
  simp only [weave.eq_2, List.append_assoc]
theorem weave_end {x f : Str} {turn : Nat → Option Nat} {sp : List (Nat × Nat)} {i a : Nat} {R : List Nat} (h : sp.length ≤ i) (ha : a ≤ x.length) (hR : codes f ++ weave (codes x) turn (sp.drop i) a = R) :
    codes (f ++ Txt.slice x (some (a : Int)) none) = R := by
  rw [List.drop_of_length_le h] at hR
  have hl := codes_len x
  rw [slice_from ha, codes_app, cut_codes, ← hR, weave.eq_1, List.take_of_length_le (by rw [List.length_drop]; omega)]
end Mine

end

section
open PySem PySem.W PySem.Calls PySem.Spec PyProof.Rows PySem.StrLaws
namespace Mine

/-- where the law's own reader ends the piece that begins at i -/
noncomputable def lawEnd (cs : List Nat) (i : Nat) : Nat := if cs.getD i 0 = 34 then quoteEnd cs i else if isWord (cs.getD i 0) then runEnd isWord cs (i + 1) else i + 1
noncomputable def lawWords (cs : List Nat) : Nat → Nat → List (Nat × Nat)
  | 0, _ => []
  | k + 1, a => if a < cs.length then (a, lawEnd cs a) :: lawWords cs k (lawEnd cs a) else []
/-- the law's name of a piece that begins with the sign c -/
noncomputable def kindStr (c : Nat) : Str := if c = 34 then Str.ofString "quoted" else if isWord c then Str.ofString "word" else ⟨#[c]⟩
noncomputable abbrev wordD (cs : List Nat) (p : Nat × Nat) : Dat := .tuple [.str (kindStr (cs.getD p.1 0)), .int p.1, .int p.2]
theorem lawEnd_gt {cs : List Nat} {i : Nat} (h : i < cs.length) : i < lawEnd cs i ∧ lawEnd cs i ≤ cs.length := by
  unfold lawEnd
  split
  · exact ⟨quoteEnd_gt h, quoteEnd_len _ _⟩
  · split
    · have h1 := runEnd_ge (p := isWord) (cs := cs) (i := i + 1) (by omega)
      have h2 := runEnd_len (p := isWord) (cs := cs) (i := i + 1) (by omega)
      omega
    · omega
theorem lawWords_go {cs : List Nat} {k a : Nat} (h : a < cs.length) : lawWords cs (k + 1) a = (a, lawEnd cs a) :: lawWords cs k (lawEnd cs a) := by rw [lawWords.eq_2, if_pos h]
theorem lawWords_end {cs : List Nat} {k a : Nat} (h : ¬ a < cs.length) : lawWords cs k a = [] := by
  cases k with
  | zero => rfl
  | succ k => rw [lawWords.eq_2, if_neg h]
theorem word_snoc {cs : List Nat} {tl : List (Addr × Obj)} {ws : List Value} {done : List (Nat × Nat)} (hD : DatAll tl ws (done.map (wordD cs))) (D : Addr) (b e : Nat) (s : Str) (ts tb te : Tok) (nn : Nat) (hs : s = kindStr (cs.getD b 0)) :
    DatAll ((D, ({ cls := .type "tuple", data := .seq #[.str s ts, .int b tb, .int e te] nn } : Obj)) :: tl) (ws ++ [.ref D]) ((done ++ [(b, e)]).map (wordD cs)) := by
  subst hs
  rw [List.map_append]
  refine DatAll.append (DatAll.mono (fun p hp => List.mem_cons_of_mem _ hp) hD) (DatAll.one ?_)
  exact DatIn.tuple (vs := [.str _ ts, .int b tb, .int e te]) List.mem_cons_self (DatAll.cons (DatIn.str _ ts) (DatAll.cons (DatIn.int (b : Nat) tb) (DatAll.cons (DatIn.int (e : Nat) te) DatAll.nil)))
end Mine

end

section
open PySem PySem.W PySem.Calls PySem.Spec PyProof.Rows PySem.StrLaws
namespace Mine

inductive Mood where
  | out | data | led | taken | told | none
  deriving DecidableEq
noncomputable def moodStr : Mood → Str
  | .out => Str.ofString "out"
  | .data => Str.ofString "data"
  | .led => Str.ofString "led"
  | .taken => Str.ofString "taken up"
  | .told => Str.ofString "told"
  | .none => Str.ofString "none"
/-- the law's reader over the pieces, mood by mood -/
noncomputable def lawSpots (cs : List Nat) : List (Nat × Nat) → Mood → List (Nat × Nat)
  | [], _ => []
  | p :: r, m =>
    if m = .data then lawSpots cs r (if cs.getD p.1 0 = 58 then .out else .data)
    else if cs.getD p.1 0 = 39 then []
    else if isWord (cs.getD p.1 0) then
      if wordOf cs p.1 p.2 = wREM then []
      else if (m = .led ∨ m = .taken) ∧ (wordOf cs p.1 p.2).all isFig = true then
        (if m = .led ∨ numAt cs p ≠ 0 then [p] else []) ++ lawSpots cs r (if m = .led then .told else .none)
      else lawSpots cs r (if wordOf cs p.1 p.2 = wRESUME then .taken else if wLEAD.contains (wordOf cs p.1 p.2) then .led else if wordOf cs p.1 p.2 = wDATA then .data else .out)
    else if cs.getD p.1 0 = 44 ∧ (m = .told ∨ m = .none) then lawSpots cs r (if m = .told then .led else .taken)
    else if cs.getD p.1 0 = 32 then lawSpots cs r m
    else lawSpots cs r .out
theorem lawWords_ok {cs : List Nat} : ∀ {k a : Nat}, ∀ p ∈ lawWords cs k a, p.1 < cs.length ∧ p.2 = lawEnd cs p.1 := by
  intro k
  induction k with
  | zero => intro a p hp; cases hp
  | succ k ih =>
    intro a p hp
    by_cases h : a < cs.length
    · rw [lawWords_go h] at hp
      rcases List.mem_cons.mp hp with rfl | hp
      · exact ⟨h, rfl⟩
      · exact ih p hp
    · rw [lawWords_end h] at hp; cases hp
theorem lawWords_len {cs : List Nat} : ∀ {k a : Nat}, a ≤ cs.length → (lawWords cs k a).length + a ≤ cs.length := by
  intro k
  induction k with
  | zero => intro a h; simpa [lawWords] using h
  | succ k ih =>
    intro a h
    by_cases h1 : a < cs.length
    · have h2 := lawEnd_gt h1
      have := ih h2.2
      rw [lawWords_go h1, List.length_cons]; omega
    · rw [lawWords_end h1, List.length_nil]; omega
theorem lawEnd_word {cs : List Nat} {i : Nat} (h : i < cs.length) (hw : isWord (cs.getD i 0) = true) : lawEnd cs i = runEnd isWord cs i := by
  rw [lawEnd, if_neg (fun e => by rw [e] at hw; exact absurd hw (by decide)), if_pos hw, runEnd_go h hw]
theorem kind_colon (c : Nat) : (kindStr c == Str.ofString ":") = decide (c = 58) := by
  unfold kindStr
  split
  · rename_i h; subst h; decide
  · split
    · rename_i h
      rw [show decide (c = 58) = false from decide_eq_false (fun e => by rw [e] at h; exact absurd h (by decide))]; decide
    · rw [cl_str, one_eq]; rfl
theorem kind_apo (c : Nat) : (kindStr c == Str.ofString "'") = decide (c = 39) := by
  unfold kindStr
  split
  · rename_i h; subst h; decide
  · split
    · rename_i h
      rw [show decide (c = 39) = false from decide_eq_false (fun e => by rw [e] at h; exact absurd h (by decide))]; decide
    · rw [ap_str, one_eq]; rfl
theorem kind_comma (c : Nat) : (kindStr c == Str.ofString ",") = decide (c = 44) := by
  unfold kindStr
  split
  · rename_i h; subst h; decide
  · split
    · rename_i h
      rw [show decide (c = 44) = false from decide_eq_false (fun e => by rw [e] at h; exact absurd h (by decide))]; decide
    · rw [co_str, one_eq]; rfl
theorem kind_blank (c : Nat) : (kindStr c == Str.ofString " ") = decide (c = 32) := by
  unfold kindStr
  split
  · rename_i h; subst h; decide
  · split
    · rename_i h
      rw [show decide (c = 32) = false from decide_eq_false (fun e => by rw [e] at h; exact absurd h (by decide))]; decide
    · rw [sp_str, one_eq]; rfl
theorem kind_word (c : Nat) : (kindStr c == Str.ofString "word") = isWord c := by
  unfold kindStr
  split
  · rename_i h; subst h; decide
  · split
    · rename_i h; rw [h]; decide
    · rename_i h
      rw [Bool.not_eq_true] at h
      rw [h, beq_codes]
      have : codes (Str.ofString "word") = [119, 111, 114, 100] := by decide
      rw [this]
      show ([c] == [119, 111, 114, 100]) = false
      simp
theorem mood_data (m : Mood) : (moodStr m == Str.ofString "data") = decide (m = .data) := by cases m <;> decide
theorem mood_led (m : Mood) : (moodStr m == Str.ofString "led") = decide (m = .led) := by cases m <;> decide
theorem mood_told (m : Mood) : (moodStr m == Str.ofString "told") = decide (m = .told) := by cases m <;> decide
theorem triple_at {own : List (Addr × Obj)} {cs : List Nat} {sp : List (Nat × Nat)} {vs : List Value} (h : DatAll own vs (sp.map (wordD cs))) {i : Nat} {v : Value} (hv : vs[i]? = some v) : ∃ p, sp[i]? = some p ∧ ∃ (a : Addr) (ts tb te : Tok) (nn : Nat), v = .ref a ∧ (a, ({ cls := .type "tuple", data := .seq #[.str (kindStr (cs.getD p.1 0)) ts, .int p.1 tb, .int p.2 te] nn } : Obj)) ∈ own := by
  obtain ⟨d, hd, hi⟩ := dat_at h hv
  rw [List.getElem?_map] at hd
  obtain ⟨p, hp, rfl⟩ := Option.map_eq_some_iff.mp hd
  obtain ⟨a, us, nn, rfl, hm, hr⟩ := datIn_tuple hi
  obtain ⟨u1, us, rfl, a1, hr⟩ := datAll_cons hr
  obtain ⟨u2, us, rfl, a2, hr⟩ := datAll_cons hr
  obtain ⟨u3, us, rfl, a3, hr⟩ := datAll_cons hr
  obtain rfl := datAll_nil hr
  obtain ⟨t1, rfl⟩ := datIn_str a1
  obtain ⟨t2, rfl⟩ := datIn_int a2
  obtain ⟨t3, rfl⟩ := datIn_int a3
  exact ⟨p, hp, a, t1, t2, t3, nn, rfl, hm⟩
end Mine

end

section
open PySem PySem.W PySem.Calls PySem.Spec PyProof.Rows PySem.StrLaws
namespace Mine

theorem strip_lists {g : Nat → Bool} : ∀ l : List Nat, (l.all g = true → (l.takeWhile g).length = l.length) ∧
    (l.all g = false → (l.takeWhile g).length < l.length - ((l.drop (l.takeWhile g).length).reverse.takeWhile g).length) := by
  intro l
  induction l with
  | nil => simp
  | cons a r ih =>
    constructor
    · intro h
      rw [List.all_cons, Bool.and_eq_true] at h
      rw [List.takeWhile_cons, if_pos h.1, List.length_cons, ih.1 h.2, List.length_cons]
    · intro h
      cases hg : g a with
      | true =>
        rw [List.all_cons, hg, Bool.true_and] at h
        have := ih.2 h
        rw [List.takeWhile_cons, if_pos hg, List.length_cons, List.drop_succ_cons, List.length_cons]
        omega
      | false =>
        rw [List.takeWhile_cons, if_neg (by rw [hg]; exact Bool.false_ne_true)]
        simp only [List.length_nil, List.drop_zero]
        have hl : ((a :: r).reverse.takeWhile g).length < (a :: r).reverse.length := by
          have h1 : ((a :: r).reverse.takeWhile g).length ≤ (a :: r).reverse.length := (List.takeWhile_sublist g).length_le
          rcases Nat.lt_or_eq_of_le h1 with h1 | h1
          · exact h1
          · have he := (List.takeWhile_sublist (l := (a :: r).reverse) g).eq_of_length h1
            have ha : a ∈ (a :: r).reverse.takeWhile g := by rw [he]; simp
            have := List.all_eq_true.mp (List.all_takeWhile (p := g) (l := (a :: r).reverse)) a ha
            rw [hg] at this; cases this
        rw [List.length_reverse] at hl
        omega
theorem strip_none (x : Str) : (Txt.stripChars x (Str.ofString "0") != Str.ofString "") = !((codes x).all (· == 48)) := by
  have hz : (Str.ofString "0").cps.contains = fun c => c == 48 := by
    funext c
    have : (Str.ofString "0").cps = #[48] := by decide
    rw [this]
    simp [Array.contains]
  have h : codes (Txt.stripChars x (Str.ofString "0")) = ((codes x).drop ((codes x).takeWhile (· == 48)).length).take ((codes x).length - (((codes x).drop ((codes x).takeWhile (· == 48)).length).reverse.takeWhile (· == 48)).length - ((codes x).takeWhile (· == 48)).length) := by
    rw [Txt.stripChars, PySem.W.stripBy_eq, hz]
    unfold PySem.W.stripped
    simp only [if_true]
    show (x.cps.extract _ _).toList = _
    rw [Array.toList_extract, List.extract_eq_take_drop, codes_len]
  have hs := strip_lists (g := (· == 48)) (codes x)
  rw [bne, beq_codes, codes_empty, h]
  congr 1
  cases hb : (codes x).all (· == 48) with
  | true =>
    have := hs.1 hb
    rw [List.drop_of_length_le (Nat.le_of_eq this.symm)]
    simp
  | false =>
    have := hs.2 hb
    rw [beq_eq_false_iff_ne]
    intro hc
    have hl := congrArg List.length hc
    rw [List.length_take, List.length_drop, List.length_nil] at hl
    exact no_min this hl
theorem up_fig {c : Nat} (h : isFig (up1 c) = true) : up1 c = c := by
  unfold up1 at h ⊢
  split
  · rename_i hc
    rw [if_pos hc] at h
    simp [isFig] at h hc
    omega
  · rfl
theorem map_up_fig : ∀ {l : List Nat}, (l.map up1).all isFig = true → l.map up1 = l
  | [], _ => rfl
  | a :: r, h => by
    rw [List.map_cons, List.all_cons, Bool.and_eq_true] at h
    rw [List.map_cons, up_fig h.1, map_up_fig h.2]
theorem fold_zero : ∀ {ds : List Nat} {f : Nat}, (∀ c ∈ ds, isFig c = true) → (ds.foldl (fun f c => min (10 * f + (c - 48)) 65530) f = 0 ↔ f = 0 ∧ ds.all (· == 48) = true)
  | [], f, _ => by simp
  | a :: r, f, h => by
    rw [List.foldl_cons, fold_zero (fun c hc => h c (List.mem_cons_of_mem _ hc)), List.all_cons]
    have ha := h a List.mem_cons_self
    have ha' : 48 ≤ a ∧ a ≤ 57 := by simpa [isFig] using ha
    rw [Bool.and_eq_true, beq_iff_eq]
    constructor
    · rintro ⟨h1, h2⟩; exact ⟨by omega, by omega, h2⟩
    · rintro ⟨h1, h2, h3⟩; exact ⟨by omega, h3⟩
theorem num_zero {ds : List Nat} (h : ∀ c ∈ ds, isFig c = true) : (numTold ds ≠ 0) ↔ ds.all (· == 48) = false := by
  unfold numTold
  rw [ne_eq, fold_zero h]
  simp
theorem digit_ascii : ((List.range 128).all fun c => !isWord c || Unicode.isDigit c == isFig c) = true := by decide +kernel
theorem isdigit_word {y : Str} (hne : codes y ≠ []) (h : ∀ c ∈ codes y, isWord c = true) : Txt.isdigit y = (codes y).all isFig := by
  have h1 : y.length > 0 := by
    have := codes_len y
    have : (codes y).length ≠ 0 := fun e => hne (List.length_eq_zero_iff.mp e)
    omega
  unfold Txt.isdigit
  rw [decide_eq_true h1, Bool.true_and, ← Array.all_toList]
  show (codes y).all _ = _
  rw [Bool.eq_iff_iff, List.all_eq_true, List.all_eq_true]
  have hd : ∀ c ∈ codes y, Unicode.isDigit c = isFig c := fun c hc => by
    have := List.all_eq_true.mp digit_ascii c (List.mem_range.mpr (word_ascii (h c hc)))
    rw [h c hc] at this
    simpa using this
  constructor
  · intro h2 c hc; rw [← hd c hc]; exact h2 c hc
  · intro h2 c hc; rw [hd c hc]; exact h2 c hc
theorem up_word {c : Nat} (h : isWord c = true) : isWord (up1 c) = true :=
  (by decide +kernel : ∀ c < 128, isWord c = true → isWord (up1 c) = true) c (word_ascii h) h
/-- what the law's reader asks of a word -/
theorem word_facts {x : Str} {p : Nat × Nat} (h1 : p.1 < (codes x).length) (h2 : p.2 = lawEnd (codes x) p.1) (hw : isWord ((codes x).getD p.1 0) = true) :
    codes (Txt.upper (Txt.slice x (some (p.1 : Int)) (some (p.2 : Int)))) = wordOf (codes x) p.1 p.2 ∧
    Txt.isdigit (Txt.upper (Txt.slice x (some (p.1 : Int)) (some (p.2 : Int)))) = (wordOf (codes x) p.1 p.2).all isFig ∧
    ((wordOf (codes x) p.1 p.2).all isFig = true → (Txt.stripChars (Txt.upper (Txt.slice x (some (p.1 : Int)) (some (p.2 : Int)))) (Str.ofString "0") != Str.ofString "") = decide (numAt (codes x) p ≠ 0)) := by
  have hl := codes_len x
  rw [lawEnd_word h1 hw] at h2
  have hc : codes (Txt.upper (Txt.slice x (some (p.1 : Int)) (some (p.2 : Int)))) = wordOf (codes x) p.1 p.2 := by
    rw [h2]; exact upper_word (by omega)
  have hgt : p.1 < p.2 := by
    have := runEnd_ge (p := isWord) (cs := codes x) (i := p.1 + 1) (by omega)
    rw [h2, runEnd_go h1 hw]; omega
  have hle : p.2 ≤ (codes x).length := by rw [h2]; exact runEnd_len (by omega)
  have hall : ∀ c ∈ wordOf (codes x) p.1 p.2, isWord c = true := by
    intro c hc
    unfold wordOf at hc
    obtain ⟨d, hd, rfl⟩ := List.mem_map.mp hc
    rw [h2] at hd
    exact up_word (run_all (by omega) d hd)
  have hne : wordOf (codes x) p.1 p.2 ≠ [] := by
    intro e
    have := congrArg List.length e
    unfold wordOf at this
    rw [List.length_map, List.length_take, List.length_drop, List.length_nil] at this
    omega
  refine ⟨hc, ?_, fun hf => ?_⟩
  · rw [isdigit_word (by rw [hc]; exact hne) (by rw [hc]; exact hall), hc]
  · rw [strip_none, hc]
    have he : wordOf (codes x) p.1 p.2 = ((codes x).drop p.1).take (p.2 - p.1) := map_up_fig hf
    have hz := num_zero (ds := ((codes x).drop p.1).take (p.2 - p.1)) (fun c hc => List.all_eq_true.mp (he ▸ hf) c hc)
    rw [he]
    unfold numAt
    cases hb : (((codes x).drop p.1).take (p.2 - p.1)).all (· == 48) with
    | true =>
      rw [hb] at hz
      have : ¬ (numTold (((codes x).drop p.1).take (p.2 - p.1)) ≠ 0) := fun h => by have := hz.mp h; cases this
      rw [decide_eq_false this]; rfl
    | false => rw [decide_eq_true (hz.mpr hb)]; rfl
end Mine

end

section
open PySem PySem.W PySem.Calls PySem.Spec PyProof.Rows PySem.StrLaws
namespace Mine
theorem mood_tn (m : Mood) : ([Str.ofString "told", Str.ofString "none"].any fun x => x == moodStr m) = decide (m = .told ∨ m = .none) := by cases m <;> decide
theorem mood_lt (m : Mood) : ([Str.ofString "led", Str.ofString "taken up"].any fun x => x == moodStr m) = decide (m = .led ∨ m = .taken) := by cases m <;> decide
section
variable {cs : List Nat} {p : Nat × Nat} {r : List (Nat × Nat)} {m : Mood}
theorem sp_data1 (h1 : (moodStr m == Str.ofString "data") = true) (h2 : (kindStr (cs.getD p.1 0) == Str.ofString ":") = true) : lawSpots cs (p :: r) m = lawSpots cs r .out := by
  rw [mood_data, decide_eq_true_eq] at h1
  rw [kind_colon, decide_eq_true_eq] at h2
  rw [lawSpots.eq_2, if_pos h1, if_pos h2]
theorem sp_data0 (h1 : (moodStr m == Str.ofString "data") = true) (h2 : (kindStr (cs.getD p.1 0) == Str.ofString ":") = false) : lawSpots cs (p :: r) m = lawSpots cs r .data := by
  rw [mood_data, decide_eq_true_eq] at h1
  rw [kind_colon, decide_eq_false_iff_not] at h2
  rw [lawSpots.eq_2, if_pos h1, if_neg h2]
theorem sp_apo (h1 : (moodStr m == Str.ofString "data") = false) (h2 : (kindStr (cs.getD p.1 0) == Str.ofString "'") = true) : lawSpots cs (p :: r) m = [] := by
  rw [mood_data, decide_eq_false_iff_not] at h1
  rw [kind_apo, decide_eq_true_eq] at h2
  rw [lawSpots.eq_2, if_neg h1, if_pos h2]
theorem sp_rem (h1 : (moodStr m == Str.ofString "data") = false) (h2 : (kindStr (cs.getD p.1 0) == Str.ofString "'") = false) (h3 : (kindStr (cs.getD p.1 0) == Str.ofString "word") = true) (h4 : wordOf cs p.1 p.2 = wREM) : lawSpots cs (p :: r) m = [] := by
  rw [mood_data, decide_eq_false_iff_not] at h1
  rw [kind_apo, decide_eq_false_iff_not] at h2
  rw [kind_word] at h3
  rw [lawSpots.eq_2, if_neg h1, if_neg h2, if_pos h3, if_pos h4]
theorem sp_num (h1 : (moodStr m == Str.ofString "data") = false) (h2 : (kindStr (cs.getD p.1 0) == Str.ofString "'") = false) (h3 : (kindStr (cs.getD p.1 0) == Str.ofString "word") = true) (h4 : wordOf cs p.1 p.2 ≠ wREM)
    (h5 : ([Str.ofString "led", Str.ofString "taken up"].any fun x => x == moodStr m) = true) (h6 : (wordOf cs p.1 p.2).all isFig = true) :
    lawSpots cs (p :: r) m = (if m = .led ∨ numAt cs p ≠ 0 then [p] else []) ++ lawSpots cs r (if m = .led then .told else .none) := by
  rw [mood_data, decide_eq_false_iff_not] at h1
  rw [kind_apo, decide_eq_false_iff_not] at h2
  rw [kind_word] at h3
  rw [mood_lt, decide_eq_true_eq] at h5
  rw [lawSpots.eq_2, if_neg h1, if_neg h2, if_pos h3, if_neg h4, if_pos ⟨h5, h6⟩]
theorem sp_word (h1 : (moodStr m == Str.ofString "data") = false) (h2 : (kindStr (cs.getD p.1 0) == Str.ofString "'") = false) (h3 : (kindStr (cs.getD p.1 0) == Str.ofString "word") = true) (h4 : wordOf cs p.1 p.2 ≠ wREM)
    (h5 : ([Str.ofString "led", Str.ofString "taken up"].any fun x => x == moodStr m) = false ∨ (wordOf cs p.1 p.2).all isFig = false) :
    lawSpots cs (p :: r) m = lawSpots cs r (if wordOf cs p.1 p.2 = wRESUME then .taken else if wLEAD.contains (wordOf cs p.1 p.2) then .led else if wordOf cs p.1 p.2 = wDATA then .data else .out) := by
  rw [mood_data, decide_eq_false_iff_not] at h1
  rw [kind_apo, decide_eq_false_iff_not] at h2
  rw [kind_word] at h3
  rw [mood_lt, decide_eq_false_iff_not] at h5
  rw [lawSpots.eq_2, if_neg h1, if_neg h2, if_pos h3, if_neg h4, if_neg ?_]
  rintro ⟨h6, h7⟩
  rcases h5 with h5 | h5
  · exact h5 h6
  · rw [h5] at h7; cases h7
theorem sp_comma (h1 : (moodStr m == Str.ofString "data") = false) (h2 : (kindStr (cs.getD p.1 0) == Str.ofString "'") = false) (h3 : (kindStr (cs.getD p.1 0) == Str.ofString "word") = false) (h4 : (kindStr (cs.getD p.1 0) == Str.ofString ",") = true)
    (h5 : ([Str.ofString "told", Str.ofString "none"].any fun x => x == moodStr m) = true) : lawSpots cs (p :: r) m = lawSpots cs r (if (moodStr m == Str.ofString "told") = true then .led else .taken) := by
  rw [mood_data, decide_eq_false_iff_not] at h1
  rw [kind_apo, decide_eq_false_iff_not] at h2
  rw [kind_word] at h3
  rw [kind_comma, decide_eq_true_eq] at h4
  rw [mood_tn, decide_eq_true_eq] at h5
  rw [mood_told, lawSpots.eq_2, if_neg h1, if_neg h2, if_neg (by rw [h3]; exact Bool.false_ne_true), if_pos ⟨h4, h5⟩]
  simp only [decide_eq_true_eq]
theorem sp_out (h1 : (moodStr m == Str.ofString "data") = false) (h2 : (kindStr (cs.getD p.1 0) == Str.ofString "'") = false) (h3 : (kindStr (cs.getD p.1 0) == Str.ofString "word") = false)
    (h5 : (kindStr (cs.getD p.1 0) == Str.ofString ",") = false ∨ ([Str.ofString "told", Str.ofString "none"].any fun x => x == moodStr m) = false) (h6 : (kindStr (cs.getD p.1 0) != Str.ofString " ") = true) : lawSpots cs (p :: r) m = lawSpots cs r .out := by
  rw [mood_data, decide_eq_false_iff_not] at h1
  rw [kind_apo, decide_eq_false_iff_not] at h2
  rw [kind_word] at h3
  rw [kind_comma, decide_eq_false_iff_not, mood_tn, decide_eq_false_iff_not] at h5
  rw [bne, kind_blank] at h6
  have h7 : cs.getD p.1 0 ≠ 32 := by simpa using h6
  rw [lawSpots.eq_2, if_neg h1, if_neg h2, if_neg (by rw [h3]; exact Bool.false_ne_true), if_neg (fun h => h5.elim (fun a => a h.1) (fun a => a h.2)), if_neg h7]
theorem sp_blank (h1 : (moodStr m == Str.ofString "data") = false) (h2 : (kindStr (cs.getD p.1 0) == Str.ofString "'") = false) (h3 : (kindStr (cs.getD p.1 0) == Str.ofString "word") = false)
    (h6 : (kindStr (cs.getD p.1 0) != Str.ofString " ") = false) : lawSpots cs (p :: r) m = lawSpots cs r m := by
  rw [mood_data, decide_eq_false_iff_not] at h1
  rw [kind_apo, decide_eq_false_iff_not] at h2
  rw [kind_word] at h3
  rw [bne, kind_blank] at h6
  have h7 : cs.getD p.1 0 = 32 := by simpa using h6
  rw [lawSpots.eq_2, if_neg h1, if_neg h2, if_neg (by rw [h3]; exact Bool.false_ne_true), if_neg (fun h => by have := h.1; omega), if_pos h7]
end
end Mine

end

section
open PySem PySem.W PySem.Calls PySem.Spec PyProof.Rows PyProof.Rows.LCg
namespace Mine

section
variable {prog : Program} {w : World} {A : Around} {s : Shared} {h₀ : Heap} {L : Addr} {m : Str → Option Value} {env : Env}

theorem end_mono {I C D : Addr} {oI oC oD : Obj} {S : List (Addr × Obj) → Prop} {r r' : Value → List (Addr × Obj) → Prop} {s₁ s₂ : Shared} {y : Value} (hr : ∀ y n, r y n → r' y n)
    (h : CompEnd h₀ L m s₁ I oI C oC D oD S r y s₂) : CompEnd h₀ L m s₁ I oI C oC D oD S r' y s₂ := by
  obtain ⟨h', tk, news', e, F, N, o, hS, q⟩ := h
  exact ⟨h', tk, news', e, F, N, o, hS, hr _ _ q⟩

/-- a comprehension over pairs by what holds of the items made so far -/
theorem restP_of {elt : Expr} {x x₂ : Str} {scope : Scope} {cl : List (Str × Addr)} {S : List (Addr × Obj) → Prop} {P : Nat → Value → Prop} {Fin : List Value → List (Addr × Obj) → Prop} {n : Nat} {news : List (Addr × Obj)} (J : Nat → List Value → Prop)
    (step : ∀ i ys, i < n → J i ys → ∀ v, P i v → ∃ (t : Addr) (ot : Obj) (v₁ v₂ : Value) (nt : Nat), v = .ref t ∧ (t, ot) ∈ news ∧ ot.cls = .type "tuple" ∧ ot.data = .seq #[v₁, v₂] nt ∧
      ∀ I oI C oC D m₂ h tk (E' : Value → Shared → Prop), NsObj oC m₂ → m₂ x = some v₁ → m₂ x₂ = some v₂ → Fr h₀ L h m → News h₀ L h ((I, oI) :: (C, oC) :: (D, lst ys) :: news) → Off3 I C D news → ((@Ne Nat I C) ∧ (@Ne Nat I D) ∧ (@Ne Nat C D)) →
        wpAny (model prog w) A (eval elt (compEnvC scope cl C env)) (CompEnd h₀ L m { s with heap := h, toks := tk } I oI C oC D (lst ys) S (fun y news' => news' = news ∧ J (i + 1) (ys ++ [y]))) E' { s with heap := h, toks := tk })
    (fin : ∀ ys, J n ys → Fin ys news) : ∀ k i ys, k + i = n → J i ys → LCp.CompRestP prog w A h₀ L m env elt x x₂ scope cl s S P Fin k i ys news := by
  intro k
  induction k with
  | zero => intro i ys hi hJ; exact LCp.CompRestP.zero (fin ys (by rw [← hi, Nat.zero_add]; exact hJ))
  | succ k ih =>
    intro i ys hi hJ
    refine LCp.CompRestP.succ fun v hv => ?_
    obtain ⟨t, ot, v₁, v₂, nt, e, hm, hc, hd, go⟩ := step i ys (by omega) hJ v hv
    refine ⟨t, ot, v₁, v₂, nt, e, hm, hc, hd, fun I oI C oC D m₂ h tk E' a b c F N o ne => ?_⟩
    refine wpAny_mono (go I oI C oC D m₂ h tk E' a b c F N o ne) (fun y s₂ q => end_mono (fun y n q2 => ?_) q) fun _ _ q => q
    obtain ⟨e2, q3⟩ := q2
    subst e2
    exact ih (i + 1) (ys ++ [y]) (by omega) q3
end

section
variable {prog : Program} {w : World} {A : Around} {E : Value → Shared → Prop} {s : Shared} {h₀ : Heap} {L : Addr} {m : Str → Option Value} {env : Env}

/-- one turn of a comprehension whose clause takes a tuple apart and asks one test: N at the end, G behind a turn -/
noncomputable def PairTurn (prog : Program) (w : World) (A : Around) (elt ct : Expr) (elts : List Expr) (k0 : Nat) (tp : Pos) (it acc : Value) (cenv : Env) (N G : Shared → Prop) (Er : Value → Shared → Prop) (s : Shared) : Prop :=
  wpAny (model prog w) A (pyNext it) (fun r s₁ => match r with
    | none => N s₁
    | some v => wpAny (model prog w) A (letOwnedTupleGo (.Tuple elts k0 tp) it v) (fun _ s₂ => wpAny (model prog w) A (assign (.Tuple elts k0 tp) cenv v) (fun _ s₃ =>
        wpAny (model prog w) A (isTrue ct cenv (eval ct cenv)) (fun ok s₄ => if ok = true then
          wpAny (model prog w) A (eval elt cenv) (fun y s₅ => wpAny (model prog w) A (call (.builtin "list.append") [acc, y]) (fun _ s₆ => G s₆) Er s₅) Er s₄
          else G s₄) Er s₃) Er s₂) Er s₁)
    Er s
/-- the loop of a comprehension whose clause takes a tuple apart and asks one test -/
theorem pairT_loop {elt ct iter : Expr} {elts : List Expr} {k0 : Nat} {tp : Pos} {scope : Scope} {pos : Pos} {it acc : Value} {cenv : Env} {R : Result → Shared → Prop} (I : Nat → Shared → Prop)
    (turn : ∀ (Er : Value → Shared → Prop) n s, I n s → PairTurn prog w A elt ct elts k0 tp it acc cenv (R (.ok .next)) (fun s => ∃ m, m < n ∧ I m s) Er s)
    (n : Nat) (h : I n s) : codeAny (model prog w) A (.compLoop (.ListComp elt [⟨.Tuple elts k0 tp, iter, [ct], 0⟩] scope pos) 0 it acc cenv) R s := by
  refine codeAny_loop rfl I (fun n s hI => ?_) n h
  show wpAny _ A ((compTurn (.ListComp elt [⟨.Tuple elts k0 tp, iter, [ct], 0⟩] scope pos) 0 it acc cenv).onRaise (fun x => do noteFrame x cenv; theTreesLotGoes x)) _ _ s
  refine wpAny_noted ?_
  rw [compTurn_list]
  refine wpAny_bind (wpAny_standAt (wpAny_bind (wpAny_mono (turn _ n s hI) (fun r s₁ h₁ => ?_) fun _ _ q => q)))
  cases r with
  | none => exact wpAny_pure h₁
  | some v =>
    refine wpAny_bind (wpAny_mono h₁ (fun _ s₂ h₂ => wpAny_bind (wpAny_mono h₂ (fun _ s₃ h₃ => wpAny_bind (wpAny_tests_one (wpAny_mono h₃ (fun ok s₄ h₄ => ?_) fun _ _ q => q))) fun _ _ q => q)) fun _ _ q => q)
    cases ok with
    | false => exact wpAny_pure ⟨rfl, by simpa using h₄⟩
    | true => exact wpAny_bind (wpAny_bind (wpAny_mono (by simpa using h₄) (fun y s₅ h₅ => wpAny_bind (wpAny_mono h₅ (fun _ s₆ h₆ => wpAny_pure (wpAny_pure ⟨rfl, h₆⟩)) fun _ _ q => q)) fun _ _ q => q))

/-- what holds between the turns of such a comprehension -/
noncomputable def PTI (h₀ : Heap) (L : Addr) (m : Str → Option Value) (s₁ : Shared) (its : Array Value) (ax I C D : Addr) (J : Nat → List Value → List (Addr × Obj) → Prop) (k : Nat) (s' : Shared) : Prop :=
  ∃ h' tk i ys m' nx, s' = { s₁ with heap := h', toks := tk } ∧ i ≤ its.size ∧ k = its.size + 1 - i ∧ ys.length ≤ i ∧ (h'.IsListIter I ax i ∧ h'.IsList ax its) ∧ Fr h₀ L h' m ∧ h'.Ns C m' ∧
    News h₀ L h' ((D, lst ys) :: nx) ∧ Off3 I C D nx ∧ J i ys nx
theorem PTI.mk {h₀ : Heap} {L : Addr} {m : Str → Option Value} {s₁ : Shared} {its : Array Value} {ax I C D : Addr} {J : Nat → List Value → List (Addr × Obj) → Prop} {k : Nat} {h' : Heap} {tk i : Nat} {ys : List Value} {m' : Str → Option Value} {nx : List (Addr × Obj)}
    (h1 : i ≤ its.size) (h2 : k = its.size + 1 - i) (h3 : ys.length ≤ i) (h4 : h'.IsListIter I ax i ∧ h'.IsList ax its) (h5 : Fr h₀ L h' m) (h6 : h'.Ns C m') (h7 : News h₀ L h' ((D, lst ys) :: nx)) (h8 : Off3 I C D nx) (h9 : J i ys nx) :
    PTI h₀ L m s₁ its ax I C D J k { s₁ with heap := h', toks := tk } := ⟨h', tk, i, ys, m', nx, rfl, h1, h2, h3, h4, h5, h6, h7, h8, h9⟩
/-- what the source of such a comprehension brings -/
noncomputable def SrcPT (prog : Program) (w : World) (A : Around) (h₀ : Heap) (L : Addr) (m : Str → Option Value) (env : Env) (ct elt : Expr) (x x₂ : Str) (scope : Scope) (cl : List (Str × Addr)) (Q : Value → Shared → Prop) (xv : Value) (s₁ : Shared) : Prop :=
  ∃ (ax : Addr) (its : Array Value) (c : Nat) (news : List (Addr × Obj)) (J : Nat → List Value → List (Addr × Obj) → Prop), xv = .ref ax ∧ A.handled = none ∧ Fr h₀ L s₁.heap m ∧ News h₀ L s₁.heap news ∧ its.size ≤ sizeLine ∧
    (∀ i ys nx, J i ys nx → (ax, ({ cls := .type "list", data := .seq its c } : Obj)) ∈ nx) ∧ J 0 [] news ∧
    (∀ i ys nx v, i < its.size → its[i]? = some v → J i ys nx → ∃ (t : Addr) (v₁ v₂ : Value) (nt : Nat), v = .ref t ∧ (t, ({ cls := .type "tuple", data := .seq #[v₁, v₂] nt } : Obj)) ∈ nx ∧
      ∀ I oI C oC D m₂ h tk (E' : Value → Shared → Prop), NsObj oC m₂ → m₂ x = some v₁ → m₂ x₂ = some v₂ → Fr h₀ L h m → News h₀ L h ((I, oI) :: (C, oC) :: (D, lst ys) :: nx) → Off3 I C D nx → ((@Ne Nat I C) ∧ (@Ne Nat I D) ∧ (@Ne Nat C D)) →
        wpAny (model prog w) A (isTrue ct (compEnvC scope cl C env) (eval ct (compEnvC scope cl C env))) (fun ok s' => if ok = true then
          wpAny (model prog w) A (eval elt (compEnvC scope cl C env)) (CompEnd h₀ L m { s₁ with heap := h, toks := tk } I oI C oC D (lst ys) (fun _ => True) (fun y nx' => J (i + 1) (ys ++ [y]) nx')) E' s'
          else CompEnd h₀ L m { s₁ with heap := h, toks := tk } I oI C oC D (lst ys) (fun _ => True) (fun _ nx' => J (i + 1) ys nx') Value.none s') E' { s₁ with heap := h, toks := tk }) ∧
    (∀ ys nx D h tk, J its.size ys nx → Fr h₀ L h m → News h₀ L h ((D, lst ys) :: nx) → Off1 D nx → Q (.ref D) { s₁ with heap := h, toks := tk })

theorem pairT_turn {elt ct : Expr} {x x₂ : Str} {px px₂ tp : Pos} {k0 : Nat} {scope : Scope} {cl : List (Str × Addr)} {Q : Value → Shared → Prop} {R G : Shared → Prop} {Er : Value → Shared → Prop} {s₁ : Shared} {ax I C D : Addr} {its : Array Value} {c : Nat}
    {J : Nat → List Value → List (Addr × Obj) → Prop} (hkind : scope.kind = .function) (hx : scope.names.lookup x = some .local) (hx₂ : scope.names.lookup x₂ = some .local) (hxx : x ≠ x₂)
    (hh : A.handled = none) (hsz : its.size ≤ sizeLine) (hJm : ∀ i ys nx, J i ys nx → (ax, ({ cls := .type "list", data := .seq its c } : Obj)) ∈ nx)
    (step : (∀ i ys nx v, i < its.size → its[i]? = some v → J i ys nx → ∃ (t : Addr) (v₁ v₂ : Value) (nt : Nat), v = .ref t ∧ (t, ({ cls := .type "tuple", data := .seq #[v₁, v₂] nt } : Obj)) ∈ nx ∧
      ∀ I oI C oC D m₂ h tk (E' : Value → Shared → Prop), NsObj oC m₂ → m₂ x = some v₁ → m₂ x₂ = some v₂ → Fr h₀ L h m → News h₀ L h ((I, oI) :: (C, oC) :: (D, lst ys) :: nx) → Off3 I C D nx → ((@Ne Nat I C) ∧ (@Ne Nat I D) ∧ (@Ne Nat C D)) →
        wpAny (model prog w) A (isTrue ct (compEnvC scope cl C env) (eval ct (compEnvC scope cl C env))) (fun ok s' => if ok = true then
          wpAny (model prog w) A (eval elt (compEnvC scope cl C env)) (CompEnd h₀ L m { s₁ with heap := h, toks := tk } I oI C oC D (lst ys) (fun _ => True) (fun y nx' => J (i + 1) (ys ++ [y]) nx')) E' s'
          else CompEnd h₀ L m { s₁ with heap := h, toks := tk } I oI C oC D (lst ys) (fun _ => True) (fun _ nx' => J (i + 1) ys nx') Value.none s') E' { s₁ with heap := h, toks := tk }))
    (fin : (∀ ys nx D h tk, J its.size ys nx → Fr h₀ L h m → News h₀ L h ((D, lst ys) :: nx) → Off1 D nx → Q (.ref D) { s₁ with heap := h, toks := tk }))
    (W : Walks prog w A I [I, ax] [I] its.size (fun i v => its[i]? = some v) fun i h => h.IsListIter I ax i ∧ h.IsList ax its) (hLI : L ≠ I) (hI₀ : h₀.get? I = none)
    (hDC : D ≠ C) (hCI : I ≠ C) (hDI : I ≠ D) (hD₀ : h₀.get? D = none) (hC₀ : h₀.get? C = none) (hDL : D ≠ L) (hCL : C ≠ L) (hDf : ∀ b ∈ [I, ax], b ≠ D) (hCf : ∀ b ∈ [I, ax], b ≠ C)
    {h' : Heap} {tk i : Nat} {ys : List Value} {m' : Str → Option Value} {nx : List (Addr × Obj)} (hi : i ≤ its.size) (hyl : ys.length ≤ i) (hst' : h'.IsListIter I ax i ∧ h'.IsList ax its) (F' : Fr h₀ L h' m) (hn' : h'.Ns C m')
    (N' : News h₀ L h' ((D, lst ys) :: nx)) (off' : Off3 I C D nx) (hJ : J i ys nx)
    (mk : ∀ {h' : Heap} {tk : Nat} {ys : List Value} {m' : Str → Option Value} {nx : List (Addr × Obj)}, i < its.size → ys.length ≤ i + 1 → (h'.IsListIter I ax (i + 1) ∧ h'.IsList ax its) → Fr h₀ L h' m → h'.Ns C m' →
      News h₀ L h' ((D, lst ys) :: nx) → Off3 I C D nx → J (i + 1) ys nx → G { s₁ with heap := h', toks := tk })
    (hR : ∀ (s₂ : Shared) m₂, s₂.heap.Ns C m₂ → (∀ h'', Heap.SameBut C s₂.heap h'' → Q (.ref D) { s₂ with heap := h'' }) → R s₂) :
    PairTurn prog w A elt ct [.Name x px, .Name x₂ px₂] k0 tp (.ref I) (.ref D) (compEnvC scope cl C env) R G Er { s₁ with heap := h', toks := tk } := by
  unfold PairTurn
  have off3 := off'.mem
  by_cases hlt' : i < its.size
  · refine W.item i _ _ _ hlt' hst' fun v h₂ tk₂ hPv hst₂ hk₂ => ?_
    obtain ⟨t, v₁, v₂, nt, rfl, hmt, go⟩ := step i ys nx v hlt' hPv hJ
    have N₂ : News h₀ L h₂ ((D, lst ys) :: nx) := news_but N' hk₂ fun p hp => by
      rcases List.mem_cons.mp hp with rfl | hp
      · exact Ne.symm hDI
      · exact (off3 p hp).1
    have ht : IsTup h₂ t #[v₁, v₂] := ⟨_, (N₂ _ (List.mem_cons_of_mem _ hmt)).1, rfl, nt, rfl⟩
    refine wpAny_letOwnedTupleGo_listiter hst₂.1 ?_
    refine assign_Tuple_tuple hh ht rfl rfl fun h₅ he => ?_
    have he' : ∀ b o, h₂.get? b = some o → h₅.get? b = some o := fun b o e => he b o (Nat.ne_of_lt (Heap.lt_size e)) e
    refine assignInOrder_cons (wpAny_assign_Name (wpAny_storeName_local (lookup_relabel_local hx) ((hn'.at' fun o e => hk₂ _ o (by simpa using Ne.symm hCI) e).at' fun o e => he' _ o e) (fun h₆ hn₆ hs₆ => ?_) (by simp [compEnvC, relabel, hkind])))
    refine assignInOrder_cons (wpAny_assign_Name (wpAny_storeName_local (lookup_relabel_local hx₂) hn₆ (fun h₃ hn₃ hs₃ => ?_) (by simp [compEnvC, relabel, hkind])))
    refine assignInOrder_nil ?_
    have old3 : ∀ b o, b ≠ C → h₂.get? b = some o → h₃.get? b = some o := fun b o hb e => hs₃.extBut b o hb (hs₆.extBut b o hb (he' b o e))
    have hst₃ := W.frame _ _ h₃ hst₂ fun b hb o e => old3 b o (hCf b hb) e
    obtain ⟨oI, heI, hrI⟩ := hst₃.1
    obtain ⟨oC, heC, hoC⟩ := ns_obj hn₃
    have F₃ : Fr h₀ L h₃ m := (((fr_but F' hk₂ hLI hI₀).keeps he').change hs₆ hCL hC₀).change hs₃ hCL hC₀
    have N₃ : News h₀ L h₃ ((I, oI) :: (C, oC) :: (D, lst ys) :: nx) := fun p hp => by
      rcases List.mem_cons.mp hp with rfl | hp
      · exact ⟨heI, Ne.symm hLI, hI₀⟩
      · rcases List.mem_cons.mp hp with rfl | hp
        · exact ⟨heC, hCL, hC₀⟩
        · have z := N₂ p hp
          refine ⟨old3 _ _ ?_ z.1, z.2⟩
          rcases List.mem_cons.mp hp with rfl | hp
          · exact hDC
          · exact (off3 p hp).2.1
    have ends : ∀ {zs : List Value} {oD : Obj} {y : Value} {s₄ : Shared} {tk₀ : Nat}, CompEnd h₀ L m { s₁ with heap := h₃, toks := tk₀ } I oI C oC D oD (fun _ => True) (fun _ nx' => J (i + 1) zs nx') y s₄ →
        ∃ h₄ tk₄ nx₄ m₄, s₄ = { s₁ with heap := h₄, toks := tk₄ } ∧ Fr h₀ L h₄ m ∧ h₄.get? D = some oD ∧ h₄.Ns C m₄ ∧ News h₀ L h₄ nx₄ ∧ Off3 I C D nx₄ ∧ (h₄.IsListIter I ax (i + 1) ∧ h₄.IsList ax its) ∧ J (i + 1) zs nx₄ := by
      rintro zs oD y s₄ tk₀ ⟨h₄, tk₄, nx₄, rfl, F₄, N₄, off₄, -, J₄⟩
      have N₄' : News h₀ L h₄ nx₄ := fun p hp => N₄ p (List.mem_cons_of_mem _ (List.mem_cons_of_mem _ (List.mem_cons_of_mem _ hp)))
      exact ⟨h₄, tk₄, nx₄, _, rfl, F₄, (N₄ (D, oD) (List.mem_cons_of_mem _ (List.mem_cons_of_mem _ List.mem_cons_self))).1, hoC.ns (N₄ (C, oC) (List.mem_cons_of_mem _ List.mem_cons_self)).1, N₄', off₄,
        ⟨⟨oI, (N₄ (I, oI) List.mem_cons_self).1, hrI⟩, ⟨_, (N₄' _ (hJm _ _ _ J₄)).1, rfl, c, rfl⟩⟩, J₄⟩
    refine wpAny_mono (go I oI C oC D _ h₃ _ _ hoC (by simp [hxx]) (by simp) F₃ N₃ off' ⟨hCI, hDI, Ne.symm hDC⟩) (fun ok s₄ h₄ => ?_) fun _ _ e => e
    cases ok with
    | true =>
      simp only [if_true] at h₄ ⊢
      refine wpAny_mono h₄ (fun y s₅ h₅ => ?_) fun _ _ e => e
      obtain ⟨h₄, tk₄, nx₄, m₄, rfl, F₄, zD, hC₄, N₄, off₄, hst₄, J₄⟩ := ends (y := y) h₅
      have off4 := off₄.mem
      refine append_at (hsz := by show ys.toArray.size ≤ sizeLine; rw [List.size_toArray]; exact Nat.le_trans (Nat.le_trans hyl hi) hsz) zD fun h₅ hs₅ hD₅ => ?_
      refine mk (ys := ys ++ [y]) hlt' (by rw [List.length_append, List.length_singleton]; exact Nat.succ_le_succ hyl) (W.frame _ _ h₅ hst₄ fun b hb o e => hs₅.extBut b o (hDf b hb) e) (F₄.change hs₅ hDL hD₀) (hC₄.sameBut hs₅ (Ne.symm hDC)) (fun p hp => ?_) off₄ J₄
      rcases List.mem_cons.mp hp with rfl | hp
      · exact ⟨hD₅.trans (congrArg some (lst_snoc ys y)), hDL, hD₀⟩
      · exact ⟨hs₅.extBut _ _ (off4 p hp).2.2 (N₄ p hp).1, (N₄ p hp).2⟩
    | false =>
      simp only [Bool.false_eq_true, if_false] at h₄ ⊢
      obtain ⟨h₇, tk₄, nx₄, m₄, rfl, F₄, zD, hC₄, N₄, off₄, hst₄, J₄⟩ := ends (y := Value.none) h₄
      refine mk hlt' (Nat.le_succ_of_le hyl) hst₄ F₄ hC₄ (fun p hp => ?_) off₄ J₄
      rcases List.mem_cons.mp hp with rfl | hp
      · exact ⟨zD, hDL, hD₀⟩
      · exact N₄ p hp
  · obtain rfl : i = its.size := Nat.le_antisymm hi (Nat.not_lt.mp hlt')
    refine W.done _ _ _ hst' fun h₂ tk₂ hk₂ => ?_
    have F₂ := fr_but F' hk₂ hLI hI₀
    have N₂ : News h₀ L h₂ ((D, lst ys) :: nx) := news_but N' hk₂ fun p hp => by
      rcases List.mem_cons.mp hp with rfl | hp
      · exact Ne.symm hDI
      · exact (off3 p hp).1
    refine hR _ _ (hn'.at' fun o e => hk₂ _ o (by simpa using Ne.symm hCI) e) (fun h'' hs'' => fin ys nx _ h'' _ hJ (F₂.change hs'' hCL hC₀) (fun p hp => ?_) off'.one)
    refine ⟨hs''.extBut _ _ ?_ (N₂ p hp).1, (N₂ p hp).2⟩
    rcases List.mem_cons.mp hp with rfl | hp
    · exact hDC
    · exact (off3 p hp).2.1
theorem pairT_go {elt ct iter : Expr} {x x₂ : Str} {px px₂ tp : Pos} {k0 : Nat} {scope : Scope} {cl : List (Str × Addr)} {pos : Pos} {Q : Value → Shared → Prop} {R : Result → Shared → Prop} {s₁ : Shared} {h₁ : Heap} {ax I C D : Addr} {its : Array Value} {c : Nat}
    {news : List (Addr × Obj)} {J : Nat → List Value → List (Addr × Obj) → Prop} {m₁ : Str → Option Value} (hkind : scope.kind = .function) (hx : scope.names.lookup x = some .local) (hx₂ : scope.names.lookup x₂ = some .local) (hxx : x ≠ x₂)
    (hh : A.handled = none) (hsz : its.size ≤ sizeLine) (hJm : ∀ i ys nx, J i ys nx → (ax, ({ cls := .type "list", data := .seq its c } : Obj)) ∈ nx) (hJ0 : J 0 [] news)
    (step : (∀ i ys nx v, i < its.size → its[i]? = some v → J i ys nx → ∃ (t : Addr) (v₁ v₂ : Value) (nt : Nat), v = .ref t ∧ (t, ({ cls := .type "tuple", data := .seq #[v₁, v₂] nt } : Obj)) ∈ nx ∧
      ∀ I oI C oC D m₂ h tk (E' : Value → Shared → Prop), NsObj oC m₂ → m₂ x = some v₁ → m₂ x₂ = some v₂ → Fr h₀ L h m → News h₀ L h ((I, oI) :: (C, oC) :: (D, lst ys) :: nx) → Off3 I C D nx → ((@Ne Nat I C) ∧ (@Ne Nat I D) ∧ (@Ne Nat C D)) →
        wpAny (model prog w) A (isTrue ct (compEnvC scope cl C env) (eval ct (compEnvC scope cl C env))) (fun ok s' => if ok = true then
          wpAny (model prog w) A (eval elt (compEnvC scope cl C env)) (CompEnd h₀ L m { s₁ with heap := h, toks := tk } I oI C oC D (lst ys) (fun _ => True) (fun y nx' => J (i + 1) (ys ++ [y]) nx')) E' s'
          else CompEnd h₀ L m { s₁ with heap := h, toks := tk } I oI C oC D (lst ys) (fun _ => True) (fun _ nx' => J (i + 1) ys nx') Value.none s') E' { s₁ with heap := h, toks := tk }))
    (fin : (∀ ys nx D h tk, J its.size ys nx → Fr h₀ L h m → News h₀ L h ((D, lst ys) :: nx) → Off1 D nx → Q (.ref D) { s₁ with heap := h, toks := tk }))
    (W : Walks prog w A I [I, ax] [I] its.size (fun i v => its[i]? = some v) fun i h => h.IsListIter I ax i ∧ h.IsList ax its) (hLI : L ≠ I) (hI₀ : h₀.get? I = none) (hst₁ : h₁.IsListIter I ax 0 ∧ h₁.IsList ax its) (F₉ : Fr h₀ L h₁ m)
    (hns₁ : h₁.Ns C m₁) (hDC : D ≠ C) (hCI : I ≠ C) (hDI : I ≠ D) (hD₀ : h₀.get? D = none) (hC₀ : h₀.get? C = none) (hDL : D ≠ L) (hCL : C ≠ L) (hDf : ∀ b ∈ [I, ax], b ≠ D) (hCf : ∀ b ∈ [I, ax], b ≠ C)
    (N₁ : News h₀ L h₁ ((D, lst []) :: news)) (off₀ : Off3 I C D news)
    (hR : ∀ (s₂ : Shared) m₂, s₂.heap.Ns C m₂ → (∀ h'', Heap.SameBut C s₂.heap h'' → Q (.ref D) { s₂ with heap := h'' }) → R (.ok .next) s₂) :
    codeAny (model prog w) A (.compLoop (.ListComp elt [⟨.Tuple [.Name x px, .Name x₂ px₂] k0 tp, iter, [ct], 0⟩] scope pos) 0 (.ref I) (.ref D) (compEnvC scope cl C env)) R { s₁ with heap := h₁ } := by
  refine pairT_loop (PTI h₀ L m s₁ its ax I C D J) ?_ (its.size + 1) (PTI.mk (Nat.zero_le _) rfl (Nat.le_refl _) hst₁ F₉ hns₁ N₁ off₀ hJ0)
  rintro Er k s' ⟨h', tk, i, ys, m', nx, rfl, hi, rfl, hyl, hst', F', hn', N', off', hJ⟩
  exact pairT_turn hkind hx hx₂ hxx hh hsz hJm step fin W hLI hI₀ hDC hCI hDI hD₀ hC₀ hDL hCL hDf hCf hi hyl hst' F' hn' N' off' hJ
    (fun a b c d e f g k => ⟨its.size + 1 - (i + 1), Nat.sub_succ_lt_self _ _ (Nat.lt_succ_of_lt a), PTI.mk a rfl b c d e f g k⟩) hR
theorem comp_pairT {elt ct iter : Expr} {x x₂ : Str} {px px₂ tp : Pos} {k0 : Nat} {scope : Scope} {cl : List (Str × Addr)} {pos : Pos} {Q : Value → Shared → Prop}
    (_F₀ : Fr h₀ L s.heap m) (hclos : closureFor scope env = pure cl) (hcell : ∀ y ∈ scope.names, y.2 ≠ .cell) (hkind : scope.kind = .function)
    (hnames : ∀ y ∈ scope.names, y.2 = .local → scope.names.lookup y.1 = some .local) (hx : scope.names.lookup x = some .local) (hx₂ : scope.names.lookup x₂ = some .local) (hxx : x ≠ x₂)
    (h : wpAny (model prog w) A (eval iter env) (SrcPT prog w A h₀ L m env ct elt x x₂ scope cl Q) E s)
    (hs : ∀ x, foldedSetIterable iter env x = pure x := by intro _; rfl) :
    wpAny (model prog w) A (eval (.ListComp elt [⟨.Tuple [.Name x px, .Name x₂ px₂] k0 tp, iter, [ct], 0⟩] scope pos) env) Q E s := by
  rw [eval_ListComp]
  refine wpAny_comprehension_free (use := none) rfl hs hclos hkind hnames (wpAny_mono h (fun xv s₁ h₁ => ?_) fun _ _ e => e)
  obtain ⟨ax, its, c, news, J, rfl, hh, F, N, hsz, hJm, hJ0, step, fin⟩ := h₁
  have hol := (N _ (hJm _ _ _ hJ0)).1
  have hl : s₁.heap.IsList ax its := ⟨_, hol, rfl, c, rfl⟩
  have hlt : ax < s₁.heap.objs.size := Heap.lt_size hol
  refine wpAny_pyIter_list hl ?_
  have up : ∀ b o, s₁.heap.get? b = some o → (s₁.heap.push { cls := .type "list_iterator", data := .fields #[.ref ax, .int 0 0] }).get? b = some o := fun b o e => Heap.get?_push_of_some _ e
  have W := Walks.list (prog := prog) (w := w) hh s₁.heap.objs.size ax (Nat.ne_of_lt hlt) its
  have hst : (fun i h => h.IsListIter s₁.heap.objs.size ax i ∧ h.IsList ax its) 0 (s₁.heap.push { cls := .type "list_iterator", data := .fields #[.ref ax, .int 0 0] }) := ⟨⟨_, Heap.get?_push_size _ rfl, rfl, rfl⟩, hl.push _⟩
  have F₀ := F.keeps up
  have N₀ := N.grown up
  have hLI : L ≠ s₁.heap.objs.size := Nat.ne_of_lt F.ns.lt
  have hI₀ : h₀.get? s₁.heap.objs.size = none := next_is_new F
  have offI : ∀ p ∈ news, p.1 ≠ s₁.heap.objs.size := fun p hp => Nat.ne_of_lt (Heap.lt_size (N p hp).1)
  have hI2 : s₁.heap.objs.size < (s₁.heap.push { cls := .type "list_iterator", data := .fields #[.ref ax, .int 0 0] }).objs.size := by rw [Heap.size_push]; exact Nat.lt_succ_self _
  have hgap : ∀ a, (s₁.heap.push { cls := .type "list_iterator", data := .fields #[.ref ax, .int 0 0] }).objs.size ≤ a → h₀.get? a = none := fun a ha => by
    cases e : h₀.get? a with
    | none => rfl
    | some o => exact absurd (Heap.lt_size (F₀.keep a o e)) (Nat.not_lt.mpr ha)
  generalize hI : s₁.heap.objs.size = I at *
  generalize s₁.heap.push { cls := .type "list_iterator", data := .fields #[.ref ax, .int 0 0] } = H at *
  refine wpAny_newObj_type (wpAny_newFunctionEnv hcell (by intro y hy; simp at hy) (fun h₁ hns₁ hsb₁ => ?_) hkind)
  dsimp only at hns₁ hsb₁ ⊢
  have hD : (H.push { cls := .type "list", dict := none, data := .seq ([] : List Value).toArray }).get? H.objs.size = some (lst []) := Heap.get?_push_size _ rfl
  have hC : (H.push { cls := .type "list", dict := none, data := .seq ([] : List Value).toArray }).objs.size = H.objs.size + 1 := Heap.size_push _ _
  have hup : ∀ b o, H.get? b = some o → (H.push { cls := .type "list", dict := none, data := .seq ([] : List Value).toArray }).get? b = some o := fun b o e => Heap.get?_push_of_some _ e
  generalize H.push { cls := .type "list", dict := none, data := .seq ([] : List Value).toArray } = H2 at *
  have hDC : H.objs.size ≠ H2.objs.size := by rw [hC]; exact Nat.ne_of_lt (Nat.lt_succ_self _)
  have hCI : I ≠ H2.objs.size := by rw [hC]; exact Nat.ne_of_lt (Nat.lt_succ_of_lt hI2)
  have hDI : I ≠ H.objs.size := Nat.ne_of_lt hI2
  have old : ∀ b o, H.get? b = some o → h₁.get? b = some o := fun b o e => hsb₁.extBut b o (by rw [hC]; exact Nat.ne_of_lt (Nat.lt_succ_of_lt (Heap.lt_size e))) (Heap.get?_push_of_some _ (hup b o e))
  have hD₀ : h₀.get? H.objs.size = none := hgap _ (Nat.le_refl _)
  have hC₀ : h₀.get? H2.objs.size = none := hgap _ (by rw [hC]; exact Nat.le_succ _)
  have hLlt : L < H.objs.size := F₀.ns.lt
  have hDL : H.objs.size ≠ L := Nat.ne_of_gt hLlt
  have hCL : H2.objs.size ≠ L := by rw [hC]; exact Nat.ne_of_gt (Nat.lt_succ_of_lt hLlt)
  have hDf : ∀ b ∈ [I, ax], b ≠ H.objs.size := by
    intro b hb
    rcases List.mem_cons.mp hb with rfl | hb
    · exact hDI
    · rw [List.mem_singleton.mp hb]; exact Nat.ne_of_lt (Nat.lt_trans hlt (by rw [← hI] at hI2; exact hI ▸ hI2))
  have hCf : ∀ b ∈ [I, ax], b ≠ H2.objs.size := by
    intro b hb
    rcases List.mem_cons.mp hb with rfl | hb
    · exact hCI
    · rw [List.mem_singleton.mp hb, hC]; exact Nat.ne_of_lt (Nat.lt_succ_of_lt (Nat.lt_trans (hI ▸ hlt) hI2))
  have hst₁ := W.frame _ _ h₁ hst fun b _ o e => old b o e
  have N₁ : News h₀ L h₁ ((H.objs.size, lst []) :: news) := fun p hp => by
    rcases List.mem_cons.mp hp with rfl | hp
    · exact ⟨hsb₁.extBut _ _ hDC (Heap.get?_push_of_some _ hD), hDL, hD₀⟩
    · exact ⟨old _ _ (N₀ p hp).1, (N₀ p hp).2⟩
  have off₀ : Off3 I H2.objs.size H.objs.size news := Off3.of fun p hp => by
    have := Heap.lt_size (N₀ p hp).1
    exact ⟨offI p hp, by rw [hC]; exact Nat.ne_of_lt (Nat.lt_succ_of_lt this), Nat.ne_of_lt this⟩
  have F₉ := F₀.keeps old
  clear hgap hup old hst N₀ F₀ hsb₁ hLlt hI2 hC hD
  revert hDC hCI hDI hD₀ hC₀ hDL hCL hDf hCf off₀ N₁ hns₁
  generalize H.objs.size = D
  generalize H2.objs.size = C
  intro hns₁ hDC hCI hDI hD₀ hC₀ hDL hCL hDf hCf N₁ off₀
  refine codeAny_compStart_list ?loop (W.self 0 _ _ _ hst₁ ?loop)
  exact pairT_go hkind hx hx₂ hxx hh hsz hJm hJ0 step fin W hLI hI₀ hst₁ F₉ hns₁ hDC hCI hDI hD₀ hC₀ hDL hCL hDf hCf N₁ off₀ fun _ _ q r => ⟨_, q, r⟩
end
end Mine

end

section
open PySem PySem.W PySem.Calls PySem.Spec PyProof.Rows
namespace Mine

/-- names bound one after another -/
noncomputable def putAll : List (Str × Pos) → List Value → (Str → Option Value) → (Str → Option Value)
  | x :: xs, v :: vs, m => putAll xs vs (fun y => if y = x.1 then some v else m y)
  | _, _, m => m

noncomputable def TurnEnd (h₀ : Heap) (L : Addr) (s₁ : Shared) (I : Addr) (oI : Obj) (J : (Str → Option Value) → List (Addr × Obj) → Prop) (s₂ : Shared) : Prop :=
  ∃ h' tk m' nx', s₂ = { s₁ with heap := h', toks := tk } ∧ Fr h₀ L h' m' ∧ News h₀ L h' ((I, oI) :: nx') ∧ (∀ p ∈ nx', p.1 ≠ I) ∧ J m' nx'
noncomputable def TurnPost (h₀ : Heap) (L : Addr) (s₁ : Shared) (I : Addr) (oI : Obj) (J : (Str → Option Value) → List (Addr × Obj) → Prop) (Q : Flow → Shared → Prop) (f : Flow) (s₂ : Shared) : Prop :=
  match f with
  | .ret v => Q (.ret v) s₂
  | .brk => Q .next s₂
  | _ => TurnEnd h₀ L s₁ I oI J s₂

theorem turn_next {h₀ : Heap} {L : Addr} {s₁ : Shared} {I : Addr} {oI : Obj} {J : (Str → Option Value) → List (Addr × Obj) → Prop} {Q : Flow → Shared → Prop} {h' : Heap} {tk : Nat} {m' : Str → Option Value} {nx' : List (Addr × Obj)}
    (F : Fr h₀ L h' m') (N : News h₀ L h' ((I, oI) :: nx')) (off : ∀ p ∈ nx', p.1 ≠ I) (hJ : J m' nx') : TurnPost h₀ L s₁ I oI J Q .next { s₁ with heap := h', toks := tk } := ⟨h', tk, m', nx', rfl, F, N, off, hJ⟩

section
variable {prog : Program} {w : World} {A : Around} {E : Value → Shared → Prop} {s : Shared} {h₀ : Heap} {env : Env}

theorem put_names (hp : (env.scope.kind == .class || (env.scope.kind == .module && env.locals != env.globals)) = false) :
    ∀ {xs : List (Str × Pos)} {vs : List Value} {s : Shared} {m : Str → Option Value} {nx : List (Addr × Obj)} {Q : Unit → Shared → Prop}, xs.length = vs.length → (∀ x ∈ xs, env.kindOf x.1 = some .local) → Fr h₀ env.locals s.heap m → News h₀ env.locals s.heap nx →
      (∀ h' tk, Fr h₀ env.locals h' (putAll xs vs m) → News h₀ env.locals h' nx → Q () { s with heap := h', toks := tk }) →
      wpAny (model prog w) A (assignInOrder (xs.map fun x => assign (.Name x.1 x.2) env) vs) Q E s
  | [], vs, s, m, nx, Q, hl, _, F, N, h => assignInOrder_nil (h s.heap s.toks (by cases vs <;> exact F) N)
  | x :: xs, [], s, m, nx, Q, hl, _, F, N, h => by cases hl
  | x :: xs, v :: vs, s, m, nx, Q, hl, hk, F, N, h => by
    refine assignInOrder_cons (wpAny_assign_Name (wpAny_storeName_local (hk x List.mem_cons_self) F.ns (fun h₁ hn hs => ?_) hp))
    exact put_names hp (by simpa using hl) (fun y hy => hk y (List.mem_cons_of_mem _ hy)) (F.set hn hs) (N.set hs) fun h' tk F' N' => h h' tk F' N'

/-- what the source of a loop over a list of tuples brings -/
noncomputable def SrcFT (prog : Program) (w : World) (A : Around) (h₀ : Heap) (env : Env) (xs : List (Str × Pos)) (body : List Stmt) (Q : Flow → Shared → Prop) (E : Value → Shared → Prop) (xv : Value) (s₁ : Shared) : Prop :=
  ∃ (ax : Addr) (its : Array Value) (c : Nat) (news : List (Addr × Obj)) (m : Str → Option Value) (J : Nat → (Str → Option Value) → List (Addr × Obj) → Prop), xv = .ref ax ∧ A.handled = none ∧ Fr h₀ env.locals s₁.heap m ∧ News h₀ env.locals s₁.heap news ∧
    (∀ i m nx, J i m nx → (ax, ({ cls := .type "list", data := .seq its c } : Obj)) ∈ nx) ∧ J 0 m news ∧
    (∀ i v m₁ nx I oI h tk, its[i]? = some v → J i m₁ nx → ∃ (t : Addr) (vs : List Value) (nt : Nat), v = .ref t ∧ (t, ({ cls := .type "tuple", data := .seq vs.toArray nt } : Obj)) ∈ nx ∧ xs.length = vs.length ∧
      (Fr h₀ env.locals h (putAll xs vs m₁) → News h₀ env.locals h ((I, oI) :: nx) → (∀ p ∈ nx, p.1 ≠ I) →
        ∀ Post : Flow → Shared → Prop, (∀ f s₂, TurnPost h₀ env.locals { s₁ with heap := h, toks := tk } I oI (J (i + 1)) Q f s₂ → Post f s₂) →
        wpAny (model prog w) A (execs body env) Post E { s₁ with heap := h, toks := tk })) ∧
    (∀ m₁ nx h tk, J its.size m₁ nx → Fr h₀ env.locals h m₁ → News h₀ env.locals h nx → Q .next { s₁ with heap := h, toks := tk })

/-- one turn of such a loop: G behind a turn -/
noncomputable def ForTurn (prog : Program) (w : World) (A : Around) (target : Expr) (it : Value) (body : List Stmt) (env : Env) (N : Shared → Prop) (G : Shared → Prop) (Q : Flow → Shared → Prop) (E : Value → Shared → Prop) (s : Shared) : Prop :=
  wpAny (model prog w) A (pyNext it) (fun r s₁ => match r with
    | none => N s₁
    | some v => wpAny (model prog w) A (letOwnedTupleGo target it v) (fun _ s₁' => wpAny (model prog w) A (assign target env v) (fun _ s₂ => wpAny (model prog w) A (execs body env) (fun f s₃ => match f with
        | .next | .cont => G s₃
        | .brk => Q .next s₃
        | .ret v => Q (.ret v) s₃) E s₂) E s₁') E s₁) E s
theorem ft_turn {Q : Flow → Shared → Prop} {N G : Shared → Prop} {E' : Value → Shared → Prop} {xs : List (Str × Pos)} {elts : List Expr} {k0 : Nat} {tp : Pos} {body : List Stmt} {s₁ : Shared} {ax I : Addr} {its : Array Value} {c : Nat}
    {J : Nat → (Str → Option Value) → List (Addr × Obj) → Prop}
    (hel : assignEach elts env = xs.map fun x => (false, assign (.Name x.1 x.2) env)) (hk : ∀ x ∈ xs, env.kindOf x.1 = some .local)
    (hp : (env.scope.kind == .class || (env.scope.kind == .module && env.locals != env.globals)) = false) (hh : A.handled = none)
    (hE : ∀ {α : Type} {c : Sem α} {Q : α → Shared → Prop} {s : Shared}, wpAny (model prog w) A c Q E s → wpAny (model prog w) A c Q E' s)
    (hJm : ∀ i m nx, J i m nx → (ax, ({ cls := .type "list", data := .seq its c } : Obj)) ∈ nx)
    (step : (∀ i v m₁ nx I oI h tk, its[i]? = some v → J i m₁ nx → ∃ (t : Addr) (vs : List Value) (nt : Nat), v = .ref t ∧ (t, ({ cls := .type "tuple", data := .seq vs.toArray nt } : Obj)) ∈ nx ∧ xs.length = vs.length ∧
      (Fr h₀ env.locals h (putAll xs vs m₁) → News h₀ env.locals h ((I, oI) :: nx) → (∀ p ∈ nx, p.1 ≠ I) →
        ∀ Post : Flow → Shared → Prop, (∀ f s₂, TurnPost h₀ env.locals { s₁ with heap := h, toks := tk } I oI (J (i + 1)) Q f s₂ → Post f s₂) →
        wpAny (model prog w) A (execs body env) Post E { s₁ with heap := h, toks := tk })))
    (W : Walks prog w A I [I, ax] [I] its.size (fun i v => its[i]? = some v) fun i h => h.IsListIter I ax i ∧ h.IsList ax its) (hLI : env.locals ≠ I) (hI₀ : h₀.get? I = none)
    {h' : Heap} {tk i : Nat} {m' : Str → Option Value} {nx : List (Addr × Obj)} (hi : i ≤ its.size) (hst' : h'.IsListIter I ax i) (F' : Fr h₀ env.locals h' m') (N' : News h₀ env.locals h' nx) (off : ∀ p ∈ nx, p.1 ≠ I) (hJ : J i m' nx)
    (mk : ∀ {h' : Heap} {tk : Nat} {m' : Str → Option Value} {nx : List (Addr × Obj)}, i < its.size → h'.IsListIter I ax (i + 1) → Fr h₀ env.locals h' m' → News h₀ env.locals h' nx → (∀ p ∈ nx, p.1 ≠ I) → J (i + 1) m' nx → G { s₁ with heap := h', toks := tk })
    (fin : ∀ h tk, Fr h₀ env.locals h m' → News h₀ env.locals h nx → J its.size m' nx → N { s₁ with heap := h, toks := tk }) :
    ForTurn prog w A (.Tuple elts k0 tp) (.ref I) body env N G Q E' { s₁ with heap := h', toks := tk } := by
  unfold ForTurn
  have hl' : h'.IsList ax its := ⟨_, (N' _ (hJm _ _ _ hJ)).1, rfl, c, rfl⟩
  by_cases hlt' : i < its.size
  · refine W.item i _ _ _ hlt' ⟨hst', hl'⟩ fun v h₂ tk₂ hPv hst₂ hk₂ => ?_
    have F₂ : Fr h₀ env.locals h₂ m' := LCg.fr_but F' hk₂ hLI hI₀
    have N₂ : News h₀ env.locals h₂ nx := LCg.news_but N' hk₂ off
    refine hE ?_
    obtain ⟨t, -, -, rfl, -⟩ := step i v m' nx I default h₂ 0 hPv hJ
    refine wpAny_letOwnedTupleGo_listiter hst₂.1 ?_
    obtain ⟨oI, heI, hrI⟩ := hst₂.1
    obtain ⟨t', vs, nt, e, hmt, hlen, -⟩ := step i (.ref t) m' nx I oI h₂ 0 hPv hJ
    cases e
    have ht : IsTup h₂ t vs.toArray := ⟨_, (N₂ _ hmt).1, rfl, nt, rfl⟩
    refine hE ?_
    refine assign_Tuple_tuple hh ht (by rw [hel, List.length_map, hlen, List.size_toArray]) (by rw [hel, List.findIdx?_map]; simp [List.findIdx?_eq_none_iff]) fun h₃ he => ?_
    have he' : ∀ b o, h₂.get? b = some o → h₃.get? b = some o := fun b o e => he b o (Nat.ne_of_lt (Heap.lt_size e)) e
    rw [hel, List.map_map]
    have N₃ : News h₀ env.locals h₃ ((I, oI) :: nx) := fun p hp => by
      rcases List.mem_cons.mp hp with rfl | hp
      · exact ⟨he' _ _ heI, Ne.symm hLI, hI₀⟩
      · exact ⟨he' _ _ (N₂ p hp).1, (N₂ p hp).2⟩
    refine put_names (xs := xs) (vs := vs) hp hlen hk (F₂.keeps he') N₃ fun h₄ tk₄ F₄ N₄ => ?_
    refine hE ?_
    obtain ⟨t', vs', nt', e, hmt', hlen', go⟩ := step i (.ref t) m' nx I oI h₄ tk₄ hPv hJ
    cases e
    have ev : vs' = vs := by
      have h1 := (N₄ _ (List.mem_cons_of_mem _ hmt)).1
      have h2 := (N₄ _ (List.mem_cons_of_mem _ hmt')).1
      rw [h1] at h2
      have h3 := congrArg Obj.data (Option.some.inj h2)
      have h4 := (Data.seq.inj h3).1
      have h5 := congrArg Array.toList h4
      simpa using h5.symm
    subst ev
    refine wpAny_mono (go F₄ N₄ off _ (fun _ _ x => x)) (fun f s₃ h₃ => ?_) fun _ _ e => e
    have fin2 : TurnEnd h₀ env.locals { s₁ with heap := h₄, toks := tk₄ } I oI (J (i + 1)) s₃ → G s₃ := by
      rintro ⟨h₅, tk₅, m₅, nx₅, rfl, F₅, N₅, off₅, J₅⟩
      exact mk hlt' ⟨oI, (N₅ (I, oI) List.mem_cons_self).1, hrI⟩ F₅ (fun p hp => N₅ p (List.mem_cons_of_mem _ hp)) off₅ J₅
    cases f with
    | next => exact fin2 h₃
    | cont => exact fin2 h₃
    | brk => exact h₃
    | ret v => exact h₃
  · obtain rfl : i = its.size := Nat.le_antisymm hi (Nat.not_lt.mp hlt')
    refine W.done _ _ _ ⟨hst', hl'⟩ fun h₂ tk₂ hk₂ => ?_
    exact fin h₂ _ (LCg.fr_but F' hk₂ hLI hI₀) (LCg.news_but N' hk₂ off) hJ
/-- what holds between the turns of such a loop -/
noncomputable def FTI (h₀ : Heap) (L : Addr) (s₁ : Shared) (its : Array Value) (ax I : Addr) (J : Nat → (Str → Option Value) → List (Addr × Obj) → Prop) (k : Nat) (s' : Shared) : Prop :=
  ∃ h' tk i m' nx, s' = { s₁ with heap := h', toks := tk } ∧ i ≤ its.size ∧ k = its.size + 1 - i ∧ h'.IsListIter I ax i ∧ Fr h₀ L h' m' ∧ News h₀ L h' nx ∧ (∀ p ∈ nx, p.1 ≠ I) ∧ J i m' nx
theorem for_tuples {Q : Flow → Shared → Prop} {xs : List (Str × Pos)} {elts : List Expr} {k0 : Nat} {tp pos : Pos} {iter : Expr} {body : List Stmt}
    (hel : assignEach elts env = xs.map fun x => (false, assign (.Name x.1 x.2) env)) (hk : ∀ x ∈ xs, env.kindOf x.1 = some .local)
    (hp : (env.scope.kind == .class || (env.scope.kind == .module && env.locals != env.globals)) = false)
    (h : wpAny (model prog w) A (eval iter env) (SrcFT prog w A h₀ env xs body Q E) E s)
    (hs : ∀ x, foldedSetIterable iter env x = pure x := by intro _; rfl) (hE : PassesOwn (model prog w) A env E := by passes_own) :
    wpAny (model prog w) A (exec (.For (.Tuple elts k0 tp) iter body [] pos) env) Q E s := by
  refine wpAny_For (wpAny_mono h (fun xv s₁ h₁ => ?_) fun _ _ e => e) hs
  obtain ⟨ax, its, c, news, m, J, rfl, hh, F, N, hJm, hJ0, step, fin⟩ := h₁
  have hol := (N _ (hJm _ _ _ hJ0)).1
  have hl : s₁.heap.IsList ax its := ⟨_, hol, rfl, c, rfl⟩
  have hlt : ax < s₁.heap.objs.size := Heap.lt_size hol
  refine wpAny_pyIter_list hl ?_
  have up : ∀ b o, s₁.heap.get? b = some o → (s₁.heap.push { cls := .type "list_iterator", data := .fields #[.ref ax, .int 0 0] }).get? b = some o := fun b o e => Heap.get?_push_of_some _ e
  have W := Walks.list (prog := prog) (w := w) hh s₁.heap.objs.size ax (Nat.ne_of_lt hlt) its
  have hst : (s₁.heap.push { cls := .type "list_iterator", data := .fields #[.ref ax, .int 0 0] }).IsListIter s₁.heap.objs.size ax 0 := ⟨_, Heap.get?_push_size _ rfl, rfl, rfl⟩
  have F₀ := F.keeps up
  have N₀ := N.grown up
  have hLI : env.locals ≠ s₁.heap.objs.size := Nat.ne_of_lt F.ns.lt
  have hI₀ : h₀.get? s₁.heap.objs.size = none := next_is_new F
  have offI : ∀ p ∈ news, p.1 ≠ s₁.heap.objs.size := fun p hp => Nat.ne_of_lt (Heap.lt_size (N p hp).1)
  generalize s₁.heap.objs.size = I at *
  generalize s₁.heap.push { cls := .type "list_iterator", data := .fields #[.ref ax, .int 0 0] } = H at *
  refine codeAny_forLoop_any (FTI h₀ env.locals s₁ its ax I J) ?_ (its.size + 1)
    ⟨H, _, 0, m, news, rfl, Nat.zero_le _, rfl, hst, F₀, N₀, offI, hJ0⟩
  rintro k s' ⟨h', tk, i, m', nx, rfl, hi, rfl, hst', F', N', off, hJ⟩
  exact ft_turn hel hk hp hh (fun x => wpAny_passesOwn hE x) hJm step W hLI hI₀ hi hst' F' N' off hJ
    (fun a b c d e f => ⟨its.size + 1 - (i + 1), Nat.sub_succ_lt_self _ _ (Nat.lt_succ_of_lt a), _, _, i + 1, _, _, rfl, a, rfl, b, c, d, e, f⟩)
    (fun h tk a b c => wpAny_execs_nil (fin m' nx h _ c a b))
end
end Mine

end

section
open PySem PySem.W PySem.Calls PySem.Spec PyProof.Rows PyProof.Rows.LCg
namespace Mine
section
variable {prog : Program} {w : World} {A : Around} {s : Shared} {h₀ : Heap} {L : Addr} {m : Str → Option Value} {env : Env}
/-- a comprehension by what holds of the items made so far -/
theorem rest_of {elt : Expr} {x : Str} {scope : Scope} {cl : List (Str × Addr)} {S : List (Addr × Obj) → Prop} {P : Nat → Value → Prop} {Fin : List Value → List (Addr × Obj) → Prop} {n : Nat} {news : List (Addr × Obj)} (J : Nat → List Value → Prop)
    (step : ∀ i ys, i < n → J i ys → ∀ v, P i v →
      ∀ I oI C oC D m₂ h tk (E' : Value → Shared → Prop), NsObj oC m₂ → m₂ x = some v → Fr h₀ L h m → News h₀ L h ((I, oI) :: (C, oC) :: (D, lst ys) :: news) → Off3 I C D news → ((@Ne Nat I C) ∧ (@Ne Nat I D) ∧ (@Ne Nat C D)) →
        wpAny (model prog w) A (eval elt (compEnvC scope cl C env)) (CompEnd h₀ L m { s with heap := h, toks := tk } I oI C oC D (lst ys) S (fun y news' => news' = news ∧ J (i + 1) (ys ++ [y]))) E' { s with heap := h, toks := tk })
    (fin : ∀ ys, J n ys → Fin ys news) : ∀ k i ys, k + i = n → J i ys → CompRest prog w A h₀ L m env elt x scope cl s S P Fin k i ys news := by
  intro k
  induction k with
  | zero => intro i ys hi hJ; exact CompRest.zero (fin ys (by rw [← hi, Nat.zero_add]; exact hJ))
  | succ k ih =>
    intro i ys hi hJ
    refine CompRest.succ fun v I oI C oC D m₂ h tk E' hv a b F N o ne => ?_
    refine wpAny_mono (step i ys (by omega) hJ v hv I oI C oC D m₂ h tk E' a b F N o ne) (fun y s₂ q => end_mono (fun y n q2 => ?_) q) fun _ _ q => q
    obtain ⟨e2, q3⟩ := q2
    subst e2
    exact ih (i + 1) (ys ++ [y]) (by omega) q3
end
section
variable {prog : Program} {w : World} {A : Around} {E : Value → Shared → Prop} {s : Shared} {h₀ : Heap} {L : Addr} {Q : Value → Shared → Prop} {news n₁ n₂ : List (Addr × Obj)} {a b : Addr} {oa ob : Obj} {xs ys : List Value} {ka kb : Nat} {ds es : List Dat}
theorem ne_same (N : News h₀ L s.heap news) (ma : (a, oa) ∈ news) (ca : oa.cls = .type "list") (da : oa.data = .seq xs.toArray ka) (Da : DatAll n₁ xs ds) (sa : ∀ p ∈ n₁, p ∈ news)
    (mb : (b, ob) ∈ news) (cb : ob.cls = .type "list") (db : ob.data = .seq ys.toArray kb) (Db : DatAll n₂ ys es) (sb : ∀ p ∈ n₂, p ∈ news)
    (ha : ∀ d ∈ ds, kqdOk 8 d = true) (hb : ∀ d ∈ es, kqdOk 8 d = true) (hu : A.units + 64 < cLine) (e : ds = es) (h : Q (.bool false) s) : wpAny (model prog w) A (compareOp .NotEq (.ref a) (.ref b)) Q E s := by
  subst e
  exact kqd_ne N ma ca da Da sa mb cb db Db sb ha hb hu (by simpa using h)
theorem eq_same (N : News h₀ L s.heap news) (ma : (a, oa) ∈ news) (ca : oa.cls = .type "list") (da : oa.data = .seq xs.toArray ka) (Da : DatAll n₁ xs ds) (sa : ∀ p ∈ n₁, p ∈ news)
    (mb : (b, ob) ∈ news) (cb : ob.cls = .type "list") (db : ob.data = .seq ys.toArray kb) (Db : DatAll n₂ ys es) (sb : ∀ p ∈ n₂, p ∈ news)
    (ha : ∀ d ∈ ds, kqdOk 8 d = true) (hb : ∀ d ∈ es, kqdOk 8 d = true) (hu : A.units + 64 < cLine) (e : ds = es) (h : Q (.bool true) s) : wpAny (model prog w) A (compareOp .Eq (.ref a) (.ref b)) Q E s := by
  subst e
  exact kqd_eq N ma ca da Da sa mb cb db Db sb ha hb hu (by simpa using h)
end
/-- a join whose text is a letter -/
theorem join_listX {prog : Program} {w : World} {A : Around} {E : Value → Shared → Prop} {s : Shared} {Q : Value → Shared → Prop} {x : Str} {t : Tok} {D : Addr} {items : Array Value} {ys : List Str} (hl : s.heap.IsList D items) (hi : StrsAre items.toList ys)
    (hok : (ys.map (·.length)).sum + ys.length * x.length ≤ 16777216) (h : ∀ y t' k, Txt.join x ys = y → Q (.str y t') { s with toks := k }) : wpAny (model prog w) A (call (.builtin "str.join") [.str x t, .ref D]) Q E s :=
  join_list hl hi hok fun t' k => h _ t' k rfl
/-- the count of the marks as a letter -/
theorem gen_toks {prog : Program} {w : World} {A : Around} {α : Type} {t : Sem α} {Q : α → Shared → Prop} {E : Value → Shared → Prop} {h : Heap} {g : Array GenState} {d : Drawn} {a b : Nat} {o : OsState}
    (H : ∀ tk, wpAny (model prog w) A t Q E { heap := h, gens := g, drawn := d, toks := tk, os := o }) : wpAny (model prog w) A t Q E { heap := h, gens := g, drawn := d, toks := a + b, os := o } := H (a + b)
end Mine

end

section
open PySem PySem.W PySem.Calls PySem.Spec PyProof.Rows PySem.StrLaws
namespace Mine
theorem ints_get {vs : List Value} {ns : List Int} (h : IntsAre vs ns) : ∀ {i : Nat} {v : Value}, vs[i]? = some v → ∃ k t, v = .int k t ∧ ns[i]? = some k := by
  induction h with
  | nil => intro i v hv; cases hv
  | cons n t _ ih =>
    intro i v hv
    cases i with
    | zero => exact ⟨n, t, (Option.some.inj hv).symm, rfl⟩
    | succ i => exact ih hv
theorem ints_len {vs : List Value} {ns : List Int} (h : IntsAre vs ns) : vs.length = ns.length := by
  induction h with
  | nil => rfl
  | cons n t _ ih => rw [List.length_cons, List.length_cons, ih]
theorem strs_snoc {vs : List Value} {ys : List Str} (h : StrsAre vs ys) (y : Str) (t : Tok) : StrsAre (vs ++ [.str y t]) (ys ++ [y]) := by
  induction h with
  | nil => exact .cons _ _ .nil
  | cons z u _ ih => exact .cons _ _ ih
/-- the law's menu -/
noncomputable def menu : List Str := [Str.ofString "GOTO", Str.ofString "THEN", Str.ofString "10", Str.ofString "7", Str.ofString " ", Str.ofString ",", Str.ofString ":", Str.ofString "A", Str.ofString "X1", Str.ofString "=", Str.ofString "\"", Str.ofString "'", Str.ofString "REM", Str.ofString "ELSE", Str.ofString "GOSUB ", Str.ofString "65530", Str.ofString "RESTORE ", Str.ofString "RETURN", Str.ofString "0", Str.ofString "resume ", Str.ofString "DATA", Str.ofString ", ", Str.ofString "$", Str.ofString "goto ", Str.ofString "\"a:b\"", Str.ofString ".5", Str.ofString "é", Str.ofString "(", Str.ofString "RESUMED", Str.ofString "123456789", Str.ofString "data ", Str.ofString "%"]
noncomputable def piece (k : Int) : Str := menu.getD (k.fmod 32).toNat Str.empty
theorem menu_len : ∀ y ∈ menu, y.length ≤ 9 := by decide +kernel
theorem piece_len (k : Int) : (piece k).length ≤ 9 := by
  unfold piece
  rw [List.getD]
  cases h : menu[(k.fmod 32).toNat]? with
  | none => exact Nat.zero_le _
  | some y => exact menu_len y (List.mem_of_getElem? h)
theorem codes_join : ∀ l : List Str, codes (Str.join (Str.ofString "") l) = (l.map codes).flatten := by
  intro l
  induction l with
  | nil => rfl
  | cons a r ih =>
    cases r with
    | nil => show codes a = _; simp
    | cons b r =>
      show codes (a ++ Str.ofString "" ++ Str.join (Str.ofString "") (b :: r)) = _
      rw [codes_app, codes_app, ih, codes_empty, List.append_nil]
      rfl
theorem codes_tjoin (l : List Str) : codes (Txt.join (Str.ofString "") l) = (l.map codes).flatten := by
  show codes (Builtin.Str.glued (Str.ofString "") l) = _
  rw [StrLaws.glued_eq_join]; exact codes_join l
theorem pieces_sum : ∀ l : List Int, ((l.map piece).map (·.length)).sum ≤ 9 * l.length := by
  intro l
  induction l with
  | nil => simp
  | cons a r ih =>
    have := piece_len a
    simp only [List.map_cons, List.sum_cons, List.length_cons]
    omega
theorem pieces_codes : ∀ l : List Int, (((l.map piece).map codes).flatten).length ≤ 9 * l.length := by
  intro l
  induction l with
  | nil => simp
  | cons a r ih =>
    have h1 := piece_len a
    have h2 := codes_len (piece a)
    simp only [List.map_cons, List.flatten_cons, List.length_append, List.length_cons]
    omega
end Mine

end

section
open PySem PySem.W PySem.Calls PySem.Spec PyProof.Rows PySem.StrLaws
namespace Mine
/-! the law's reader from a place on -/
theorem lawWords_fuel {cs : List Nat} : ∀ {k j a : Nat}, cs.length - a ≤ k → cs.length - a ≤ j → lawWords cs k a = lawWords cs j a := by
  intro k
  induction k with
  | zero => intro j a h _; rw [lawWords_end (by omega), lawWords_end (by omega)]
  | succ k ih =>
    intro j a h hj
    by_cases h1 : a < cs.length
    · have h2 := lawEnd_gt h1
      obtain ⟨n, rfl⟩ : ∃ n, j = n + 1 := ⟨j - 1, by omega⟩
      rw [lawWords_go h1, lawWords_go h1, ih (j := n) (by omega) (by omega)]
    · rw [lawWords_end h1, lawWords_end h1]
/-- what the law's reader finds from a on, in the mood m -/
noncomputable def rd (cs : List Nat) (a : Nat) (m : Mood) : List (Nat × Nat) := lawSpots cs (lawWords cs (cs.length - a) a) m
section
variable {cs : List Nat} {a : Nat} {m : Mood}
theorem rd_of {k : Nat} (h : cs.length - a ≤ k) : lawSpots cs (lawWords cs k a) m = rd cs a m := by
  rw [rd, lawWords_fuel h (Nat.le_refl _)]
theorem rd_end (h : ¬ a < cs.length) : rd cs a m = [] := by rw [rd, lawWords_end h]; rfl
theorem rd_go (h : a < cs.length) : ∃ W, (∀ m, lawSpots cs W m = rd cs (lawEnd cs a) m) ∧ rd cs a m = lawSpots cs ((a, lawEnd cs a) :: W) m := by
  have h2 := lawEnd_gt h
  obtain ⟨n, hn⟩ : ∃ n, cs.length - a = n + 1 := ⟨cs.length - a - 1, (Nat.sub_add_cancel (Nat.sub_pos_of_lt h)).symm⟩
  refine ⟨lawWords cs n (lawEnd cs a), fun m => rd_of (Nat.le_of_lt_succ (fuel_lt' hn h h2.1)), ?_⟩
  rw [rd, hn, lawWords_go h]
theorem rd_data (h : a < cs.length) : rd cs a .data = rd cs (lawEnd cs a) (if cs.getD a 0 = 58 then .out else .data) := by
  obtain ⟨W, hW, e⟩ := rd_go (m := .data) h
  rw [e, lawSpots.eq_2, if_pos rfl, hW]
theorem rd_apo (h : a < cs.length) (hm : m ≠ .data) (hc : cs.getD a 0 = 39) : rd cs a m = [] := by
  obtain ⟨W, hW, e⟩ := rd_go (m := m) h
  rw [e, lawSpots.eq_2, if_neg hm, if_pos hc]
theorem word_39 (hw : isWord (cs.getD a 0) = true) : ¬ cs.getD a 0 = 39 := fun e => by rw [e] at hw; exact absurd hw (by decide)
theorem rd_rem (h : a < cs.length) (hm : m ≠ .data) (hw : isWord (cs.getD a 0) = true) (hr : wordOf cs a (runEnd isWord cs a) = wREM) : rd cs a m = [] := by
  obtain ⟨W, hW, e⟩ := rd_go (m := m) h
  rw [e, lawSpots.eq_2, if_neg hm, if_neg (word_39 hw), if_pos hw]
  dsimp only
  rw [lawEnd_word h hw, if_pos hr]
theorem rd_num (h : a < cs.length) (hm : m = .led ∨ m = .taken) (hw : isWord (cs.getD a 0) = true) (hr : wordOf cs a (runEnd isWord cs a) ≠ wREM) (hf : (wordOf cs a (runEnd isWord cs a)).all isFig = true) :
    rd cs a m = (if m = .led ∨ numAt cs (a, runEnd isWord cs a) ≠ 0 then [(a, runEnd isWord cs a)] else []) ++ rd cs (runEnd isWord cs a) (if m = .led then .told else .none) := by
  obtain ⟨W, hW, e⟩ := rd_go (m := m) h
  rw [lawEnd_word h hw] at e hW
  rw [e, lawSpots.eq_2, if_neg (by rintro rfl; rcases hm with h | h <;> cases h), if_neg (word_39 hw), if_pos hw]
  dsimp only
  rw [if_neg hr, if_pos ⟨hm, hf⟩, hW]
theorem rd_word (h : a < cs.length) (hm : m ≠ .data) (hw : isWord (cs.getD a 0) = true) (hr : wordOf cs a (runEnd isWord cs a) ≠ wREM) (hf : ¬ ((m = .led ∨ m = .taken) ∧ (wordOf cs a (runEnd isWord cs a)).all isFig = true)) :
    rd cs a m = rd cs (runEnd isWord cs a) (if wordOf cs a (runEnd isWord cs a) = wRESUME then .taken else if wLEAD.contains (wordOf cs a (runEnd isWord cs a)) then .led else if wordOf cs a (runEnd isWord cs a) = wDATA then .data else .out) := by
  obtain ⟨W, hW, e⟩ := rd_go (m := m) h
  rw [lawEnd_word h hw] at e hW
  rw [e, lawSpots.eq_2, if_neg hm, if_neg (word_39 hw), if_pos hw]
  dsimp only
  rw [if_neg hr, if_neg hf, hW]
theorem rd_comma (h : a < cs.length) (hm : m = .told ∨ m = .none) (hc : cs.getD a 0 = 44) : rd cs a m = rd cs (a + 1) (if m = .told then .led else .taken) := by
  obtain ⟨W, hW, e⟩ := rd_go (m := m) h
  have hl : lawEnd cs a = a + 1 := by rw [lawEnd, hc]; rfl
  rw [hl] at e hW
  rw [e, lawSpots.eq_2, if_neg (by rintro rfl; rcases hm with h | h <;> cases h), if_neg (by dsimp only; omega), if_neg (by dsimp only; rw [hc]; decide), if_pos ⟨hc, hm⟩, hW]
theorem rd_blank (h : a < cs.length) (hm : m ≠ .data) (hc : cs.getD a 0 = 32) : rd cs a m = rd cs (a + 1) m := by
  obtain ⟨W, hW, e⟩ := rd_go (m := m) h
  have hl : lawEnd cs a = a + 1 := by rw [lawEnd, hc]; rfl
  rw [hl] at e hW
  rw [e, lawSpots.eq_2, if_neg hm, if_neg (by dsimp only; omega), if_neg (by dsimp only; rw [hc]; decide), if_neg (by dsimp only; omega), if_pos hc, hW]
theorem rd_else (h : a < cs.length) (hm : m ≠ .data) (h1 : cs.getD a 0 ≠ 39) (h2 : isWord (cs.getD a 0) = false) (h3 : ¬ (cs.getD a 0 = 44 ∧ (m = .told ∨ m = .none))) (h4 : cs.getD a 0 ≠ 32) : rd cs a m = rd cs (lawEnd cs a) .out := by
  obtain ⟨W, hW, e⟩ := rd_go (m := m) h
  rw [e, lawSpots.eq_2, if_neg hm, if_neg h1, if_neg (by dsimp only; rw [h2]; exact Bool.false_ne_true), if_neg h3, if_neg h4, hW]
end
section
variable {cs : List Nat}
theorem rd_blanks {m : Mood} (hm : m ≠ .data) : ∀ {n a : Nat}, cs.length - a = n → rd cs a m = rd cs (runEnd blank cs a) m := by
  intro n
  induction n with
  | zero => intro a h; rw [runEnd_end (by omega)]
  | succ n ih =>
    intro a h
    by_cases hc : cs.getD a 0 = 32
    · rw [rd_blank (by omega) hm hc, runEnd_go (by omega) (by simpa [blank] using hc)]; exact ih (by omega)
    · rw [runEnd_stop (by simpa [blank] using hc)]
theorem run_stops {p : Nat → Bool} : ∀ {n i : Nat}, cs.length - i = n → runEnd p cs i < cs.length → p (cs.getD (runEnd p cs i) 0) = false := by
  intro n
  induction n with
  | zero => intro i h h2; rw [runEnd_end (by omega)] at h2; omega
  | succ n ih =>
    intro i h h2
    cases hp : p (cs.getD i 0) with
    | false => rw [runEnd_stop hp] at *; exact hp
    | true => rw [runEnd_go (by omega) hp] at *; exact ih (by omega) h2
theorem run_twice {p : Nat → Bool} {i : Nat} : runEnd p cs (runEnd p cs i) = runEnd p cs i := by
  by_cases h : runEnd p cs i < cs.length
  · exact runEnd_stop (run_stops rfl h)
  · exact runEnd_end h
theorem fig_word {c : Nat} (h : isFig c = true) : isWord c = true := by simp [isWord, h]
/-- a run within a run -/
theorem run_run {p q : Nat → Bool} (hpq : ∀ c, p c = true → q c = true) : ∀ {n i : Nat}, cs.length - i = n → runEnd q cs (runEnd p cs i) = runEnd q cs i := by
  intro n
  induction n with
  | zero => intro i h; rw [runEnd_end (i := i) (by omega)]
  | succ n ih =>
    intro i h
    cases hp : p (cs.getD i 0) with
    | false => rw [runEnd_stop hp]
    | true => rw [runEnd_go (by omega) hp, runEnd_go (i := i) (by omega) (hpq _ hp)]; exact ih (by omega)
/-- the gatherer's number is a word of figures alone -/
theorem num_word {b : Nat} (hb : b ≤ cs.length) (h : b < runEnd isFig cs b ∧ (runEnd isFig cs b = cs.length ∨ isWord (cs.getD (runEnd isFig cs b) 0) = false)) :
    b < cs.length ∧ isWord (cs.getD b 0) = true ∧ runEnd isWord cs b = runEnd isFig cs b := by
  have hl := runEnd_len (p := isFig) hb
  refine ⟨by omega, fig_word (runEnd_all rfl b (Nat.le_refl _) h.1), ?_⟩
  rw [← run_run (p := isFig) (q := isWord) (fun _ => fig_word) rfl]
  rcases h.2 with h2 | h2
  · rw [h2]; exact runEnd_end (by omega)
  · exact runEnd_stop h2
theorem fig_up {c : Nat} (h : isFig c = true) : up1 c = c := by
  simp [isFig] at h
  unfold up1
  rw [if_neg]
  simp; omega
theorem up_isFig (c : Nat) : isFig (up1 c) = isFig c := by
  unfold up1
  split
  · rename_i h
    simp at h
    rw [Bool.eq_iff_iff]
    simp [isFig]; omega
  · rfl
theorem wordOf_figs (b e : Nat) : (wordOf cs b e).all isFig = ((cs.drop b).take (e - b)).all isFig := by
  unfold wordOf
  rw [List.all_map]
  congr 1
  funext c
  exact up_isFig c
theorem all_run {p : Nat → Bool} {b e : Nat} (hb : b ≤ e) (he : e ≤ cs.length) (h : ((cs.drop b).take (e - b)).all p = true) : ∀ v, b ≤ v → v < e → p (cs.getD v 0) = true := by
  intro v h1 h2
  have hv : v < cs.length := by omega
  have : ((cs.drop b).take (e - b))[v - b]? = some cs[v] := by
    rw [List.getElem?_take, if_pos (by omega), List.getElem?_drop, show b + (v - b) = v by omega, List.getElem?_eq_getElem hv]
  have h3 := List.all_eq_true.mp h _ (List.mem_of_getElem? this)
  rw [List.getD, List.getElem?_eq_getElem hv]
  exact h3
theorem run_from {p : Nat → Bool} : ∀ {n b e : Nat}, e - b = n → b ≤ e → (∀ v, b ≤ v → v < e → p (cs.getD v 0) = true) → e ≤ cs.length → runEnd p cs b = runEnd p cs e := by
  intro n
  induction n with
  | zero => intro b e h hb _ _; rw [show b = e by omega]
  | succ n ih =>
    intro b e h hb hv he
    rw [runEnd_go (by omega) (hv b (Nat.le_refl _) (by omega))]
    exact ih (by omega) (by omega) (fun v h1 h2 => hv v (by omega) h2) he
/-- a word of figures alone is a number for the gatherer -/
theorem word_num {b : Nat} (hb : b < cs.length) (hw : isWord (cs.getD b 0) = true) (hf : (wordOf cs b (runEnd isWord cs b)).all isFig = true) :
    b < runEnd isFig cs b ∧ (runEnd isFig cs b = cs.length ∨ isWord (cs.getD (runEnd isFig cs b) 0) = false) := by
  have hl := runEnd_len (p := isWord) (cs := cs) (i := b) (by omega)
  have hg : b + 1 ≤ runEnd isWord cs b := by rw [runEnd_go hb hw]; exact runEnd_ge (by omega)
  rw [wordOf_figs] at hf
  have ha := all_run (by omega) hl hf
  have e1 : runEnd isFig cs b = runEnd isFig cs (runEnd isWord cs b) := run_from rfl (by omega) ha hl
  have e2 : runEnd isFig cs (runEnd isWord cs b) = runEnd isWord cs b := by
    by_cases h : runEnd isWord cs b < cs.length
    · refine runEnd_stop ?_
      cases h2 : isFig (cs.getD (runEnd isWord cs b) 0) with
      | false => rfl
      | true => have := run_stops (p := isWord) rfl h; rw [fig_word h2] at this; cases this
    · exact runEnd_end h
  rw [e1, e2]
  refine ⟨by omega, ?_⟩
  by_cases h : runEnd isWord cs b < cs.length
  · exact .inr (run_stops rfl h)
  · exact .inl (by omega)
theorem figs_not {w k : List Nat} (hf : w.all isFig = true) (hk : k.all isFig = false) : w ≠ k := by
  rintro rfl; rw [hf] at hk; cases hk
theorem lead_figs {w : List Nat} (hf : w.all isFig = true) : wLEAD.contains w = false := by
  cases h : wLEAD.contains w with
  | false => rfl
  | true =>
    have hm := List.contains_iff_mem.mp h
    have : ∀ k ∈ wLEAD, k.all isFig = false := by decide
    have := this w hm
    rw [hf] at this; cases this
/-- where no number stands, the moods after a leading word are as out -/
theorem rd_led_out {b : Nat} {m : Mood} (hm : m = .led ∨ m = .taken) (hs : b < cs.length → cs.getD b 0 ≠ 32)
    (h : ¬ (b < runEnd isFig cs b ∧ (runEnd isFig cs b = cs.length ∨ isWord (cs.getD (runEnd isFig cs b) 0) = false))) : rd cs b m = rd cs b .out := by
  have hmd : m ≠ .data := by rintro rfl; rcases hm with h | h <;> cases h
  by_cases h0 : b < cs.length
  · by_cases h1 : cs.getD b 0 = 39
    · rw [rd_apo h0 hmd h1, rd_apo h0 (by decide) h1]
    · cases h2 : isWord (cs.getD b 0) with
      | true =>
        by_cases h3 : wordOf cs b (runEnd isWord cs b) = wREM
        · rw [rd_rem h0 hmd h2 h3, rd_rem h0 (by decide) h2 h3]
        · rw [rd_word h0 hmd h2 h3 (fun h4 => h (word_num h0 h2 h4.2)), rd_word h0 (by decide) h2 h3 (fun h4 => by rcases h4.1 with h | h <;> cases h)]
      | false =>
        rw [rd_else h0 hmd h1 h2 (fun h3 => by rcases hm with rfl | rfl <;> rcases h3.2 with h | h <;> cases h) (hs h0), rd_else h0 (by decide) h1 h2 (fun h3 => by rcases h3.2 with h | h <;> cases h) (hs h0)]
  · rw [rd_end h0, rd_end h0]
theorem rd_told_out {b : Nat} {m : Mood} (hm : m = .told ∨ m = .none) (hs : b < cs.length → cs.getD b 0 ≠ 32) (hc : ¬ (b < cs.length ∧ cs.getD b 0 = 44)) : rd cs b m = rd cs b .out := by
  have hmd : m ≠ .data := by rintro rfl; rcases hm with h | h <;> cases h
  have hml : ¬ (m = .led ∨ m = .taken) := by rcases hm with rfl | rfl <;> decide
  by_cases h0 : b < cs.length
  · by_cases h1 : cs.getD b 0 = 39
    · rw [rd_apo h0 hmd h1, rd_apo h0 (by decide) h1]
    · cases h2 : isWord (cs.getD b 0) with
      | true =>
        by_cases h3 : wordOf cs b (runEnd isWord cs b) = wREM
        · rw [rd_rem h0 hmd h2 h3, rd_rem h0 (by decide) h2 h3]
        · rw [rd_word h0 hmd h2 h3 (fun h4 => hml h4.1), rd_word h0 (by decide) h2 h3 (fun h4 => by rcases h4.1 with h | h <;> cases h)]
      | false =>
        rw [rd_else h0 hmd h1 h2 (fun h3 => hc ⟨h0, h3.1⟩) (hs h0), rd_else h0 (by decide) h1 h2 (fun h3 => by rcases h3.2 with h | h <;> cases h) (hs h0)]
  · rw [rd_end h0, rd_end h0]
theorem rd_colon {b : Nat} {c : Nat} (h : b < cs.length) (hc : cs.getD b 0 = c) (h1 : c = 58 ∨ c = 44) : rd cs b .out = rd cs (b + 1) .out := by
  have hl : lawEnd cs b = b + 1 := by rw [lawEnd, hc]; rcases h1 with rfl | rfl <;> rfl
  rw [rd_else h (by decide) (by omega) (by rw [hc]; rcases h1 with rfl | rfl <;> decide) (fun h3 => by rcases h3.2 with h | h <;> cases h) (by omega), hl]
theorem data_word : ∀ {n a : Nat}, cs.length - a = n → dataEnd cs (runEnd isWord cs a) = dataEnd cs a := by
  intro n
  induction n with
  | zero => intro a h; rw [runEnd_end (by omega)]
  | succ n ih =>
    intro a h
    cases hp : isWord (cs.getD a 0) with
    | false => rw [runEnd_stop hp]
    | true =>
      rw [runEnd_go (by omega) hp, dataEnd_go (i := a) (by omega) (fun e => by rw [e] at hp; exact absurd hp (by decide)) (fun e => by rw [e] at hp; exact absurd hp (by decide))]
      exact ih (by omega)
theorem rd_dataEnd : ∀ {n a : Nat}, cs.length - a = n → rd cs a .data = rd cs (dataEnd cs a) .out := by
  intro n
  induction n using Nat.strongRecOn with
  | _ n ih =>
    intro a h
    by_cases h0 : a < cs.length
    · have hl := lawEnd_gt h0
      rw [rd_data h0]
      by_cases h1 : cs.getD a 0 = 58
      · rw [if_pos h1, dataEnd_stop h1, rd_colon h0 h1 (.inl rfl), lawEnd, h1]; rfl
      · rw [if_neg h1, ih (cs.length - lawEnd cs a) (by omega) rfl]
        congr 1
        by_cases h2 : cs.getD a 0 = 34
        · rw [lawEnd, if_pos h2, dataEnd_quote h0 h2]
        · cases h3 : isWord (cs.getD a 0) with
          | true => rw [lawEnd_word h0 h3, data_word rfl]
          | false => rw [lawEnd, if_neg h2, if_neg (by rw [h3]; exact Bool.false_ne_true), dataEnd_go h0 h1 h2]
    · rw [rd_end h0, dataEnd_end h0, rd_end h0]
/-- a row of numbers after a leading word -/
theorem rd_gather {m : Mood} (hm : m = .led ∨ m = .taken) : ∀ {n b a : Nat}, cs.length - b = n → b ≤ cs.length → (b < cs.length → cs.getD b 0 ≠ 32) → rd cs a .out = rd cs b .out →
    rd cs b m = (gather cs b a).1.filter (fun p => decide (m = .led) || numAt cs p != 0) ++ rd cs (gather cs b a).2 .out := by
  intro n
  induction n using Nat.strongRecOn with
  | _ n ih =>
    intro b a hn hb hs hab
    by_cases h : b < runEnd isFig cs b ∧ (runEnd isFig cs b = cs.length ∨ isWord (cs.getD (runEnd isFig cs b) 0) = false)
    · have he := runEnd_len (p := isFig) (cs := cs) (i := b) hb
      obtain ⟨w1, w2, w3⟩ := num_word hb h
      have hfg : (wordOf cs b (runEnd isWord cs b)).all isFig = true := by
        rw [wordOf_figs, w3]; exact List.all_eq_true.mpr (run_all hb)
      have hone : rd cs b m = [(b, runEnd isFig cs b)].filter (fun p => decide (m = .led) || numAt cs p != 0) ++ rd cs (runEnd isFig cs b) (if m = .led then .told else .none) := by
        rw [rd_num w1 hm w2 (figs_not hfg (by decide)) hfg, w3]
        congr 1
        by_cases hq : m = .led ∨ numAt cs (b, runEnd isFig cs b) ≠ 0
        · rw [if_pos hq, List.filter_cons, if_pos (by simpa using hq), List.filter_nil]
        · rw [if_neg hq, List.filter_cons, if_neg (by simpa using hq), List.filter_nil]
      have hmt : (if m = .led then Mood.told else Mood.none) = .told ∨ (if m = .led then Mood.told else Mood.none) = .none := by split <;> simp
      have hmt' : (if m = .led then Mood.told else Mood.none) ≠ .data := by split <;> decide
      have hb2 : runEnd blank cs (runEnd isFig cs b) < cs.length → cs.getD (runEnd blank cs (runEnd isFig cs b)) 0 ≠ 32 := fun h => by
        have := run_stops (p := blank) rfl h; simpa [blank] using this
      rw [hone, rd_blanks hmt' rfl]
      by_cases h2 : runEnd blank cs (runEnd isFig cs b) < cs.length ∧ cs.getD (runEnd blank cs (runEnd isFig cs b)) 0 = 44
      · have h5 := runEnd_ge (p := blank) (cs := cs) (i := runEnd isFig cs b) he
        have h6 := runEnd_ge (p := blank) (cs := cs) (i := runEnd blank cs (runEnd isFig cs b) + 1) h2.1
        have h7 := runEnd_len (p := blank) (cs := cs) (i := runEnd blank cs (runEnd isFig cs b) + 1) h2.1
        have hm2 : (if (if m = .led then Mood.told else Mood.none) = .told then Mood.led else Mood.taken) = m := by rcases hm with rfl | rfl <;> rfl
        have hmd : m ≠ .data := by rintro rfl; rcases hm with h | h <;> cases h
        rw [gather_more h h2, rd_comma h2.1 hmt h2.2, hm2, rd_blanks hmd rfl,
          ih (cs.length - runEnd blank cs (runEnd blank cs (runEnd isFig cs b) + 1)) (fuel_lt' hn (Nat.lt_of_lt_of_le h.1 he) (Nat.lt_of_lt_of_le h.1 (Nat.le_trans h5 (Nat.le_of_succ_le h6)))) rfl h7 (fun h => by have := run_stops (p := blank) rfl h; simpa [blank] using this) (a := runEnd isFig cs b)
            (by rw [rd_blanks (by decide) rfl, rd_colon h2.1 h2.2 (.inr rfl), rd_blanks (by decide) rfl])]
        rw [← List.append_assoc, ← List.filter_append]
        rfl
      · rw [gather_one h h2, rd_told_out hmt hb2 h2, ← rd_blanks (by decide) rfl]
    · rw [gather_no h, rd_led_out hm hs h, hab]
      rfl
/-- told, and the law's reader, where the word ERROR is not -/
theorem told_rd (hE : ∀ i, i < cs.length → isWord (cs.getD i 0) = true → wordOf cs i (runEnd isWord cs i) ≠ wERROR) : ∀ {k a : Nat} {ah : List Nat}, cs.length - a < k → ah ≠ wERROR → told cs k a ah = rd cs a .out := by
  intro k
  induction k with
  | zero => intro a ah h; omega
  | succ k ih =>
    intro a ah h hah
    by_cases h0 : a < cs.length
    · by_cases h1 : cs.getD a 0 = 34
      · have hq := quoteEnd_gt h0
        rw [told_quote h0 h1, ih (fuel_lt h h0 hq) (by decide), rd_else h0 (by decide) (by rw [h1]; decide) (by rw [h1]; decide) (by rw [h1]; decide) (by rw [h1]; decide), lawEnd, if_pos h1]
      · by_cases h2 : cs.getD a 0 = 39
        · rw [told_remark h2, rd_apo h0 (by decide) h2]
        · cases h3 : isWord (cs.getD a 0) with
          | false =>
            rw [told_sign h0 h1 h2 h3]
            by_cases h4 : cs.getD a 0 = 32
            · rw [if_pos h4, ih (fuel_lt h h0 (Nat.le_refl _)) hah, rd_blank h0 (by decide) h4]
            · rw [if_neg h4, ih (fuel_lt h h0 (Nat.le_refl _)) (by decide), rd_else h0 (by decide) h2 h3 (fun h => by rcases h.2 with h | h <;> cases h) h4, lawEnd, if_neg h1, if_neg (by rw [h3]; exact Bool.false_ne_true)]
          | true =>
            have hwg : a + 1 ≤ runEnd isWord cs a := by rw [runEnd_go h0 h3]; exact runEnd_ge h0
            have hwl := runEnd_len (p := isWord) (cs := cs) (i := a) (Nat.le_of_lt h0)
            by_cases hw : wordOf cs a (runEnd isWord cs a) = wREM
            · rw [told_rem h3 hw, rd_rem h0 (by decide) h3 hw]
            · rw [rd_word h0 (by decide) h3 hw (fun h => by rcases h.1 with h | h <;> cases h)]
              cases hl : wLEAD.contains (wordOf cs a (runEnd isWord cs a)) with
              | false =>
                have hres : wordOf cs a (runEnd isWord cs a) ≠ wRESUME := fun e => by rw [e] at hl; exact absurd hl (by decide)
                have hd := dataEnd_ge hwl
                rw [told_word h0 h3 hw hl, if_neg hres, if_neg Bool.false_ne_true]
                by_cases hdt : wordOf cs a (runEnd isWord cs a) = wDATA
                · rw [if_pos hdt, if_pos hdt, ih (fuel_lt h h0 (Nat.le_trans hwg hd.1)) (hE a h0 h3), rd_dataEnd rfl]
                · rw [if_neg hdt, if_neg hdt, ih (fuel_lt h h0 hwg) (hE a h0 h3)]
              | true =>
                have hbl := runEnd_len (p := blank) (cs := cs) (i := runEnd isWord cs a) hwl
                have hbg := runEnd_ge (p := blank) (cs := cs) (i := runEnd isWord cs a) hwl
                have hgl := gather_len (cs := cs) rfl hbg hbl
                have hns : runEnd blank cs (runEnd isWord cs a) < cs.length → cs.getD (runEnd blank cs (runEnd isWord cs a)) 0 ≠ 32 := fun h => by
                  have := run_stops (p := blank) rfl h; simpa [blank] using this
                have hout : rd cs (runEnd isWord cs a) .out = rd cs (runEnd blank cs (runEnd isWord cs a)) .out := rd_blanks (by decide) rfl
                rw [told_lead h0 h3 hw hl, ih (fuel_lt h h0 (Nat.le_trans hwg (Nat.le_trans (Nat.le_add_right _ _) hgl.1))) (hE a h0 h3), if_pos rfl]
                by_cases hr : wordOf cs a (runEnd isWord cs a) = wRESUME
                · rw [if_pos (.inl hr), if_pos hr, rd_blanks (m := .taken) (by decide) rfl, rd_gather (.inr rfl) rfl hbl hns hout]
                  rfl
                · rw [if_neg (fun h => h.elim hr (fun h => hah h.2)), if_neg hr, rd_blanks (m := .led) (by decide) rfl, rd_gather (.inl rfl) rfl hbl hns hout]
                  congr 1
                  exact (List.filter_eq_self.mpr fun p _ => by simp).symm
    · rw [told_end h0, rd_end h0]
end
end Mine

end

section
open PySem PySem.W PySem.Calls PySem.Spec PyProof.Rows PySem.StrLaws
namespace Mine
/-! no two R side by side -/
noncomputable def isR (c : Nat) : Bool := up1 c == 82
noncomputable def nr : Bool → List Nat → Bool
  | _, [] => true
  | b, c :: l => !(b && isR c) && nr (isR c) l
noncomputable def endR : Bool → List Nat → Bool
  | b, [] => b
  | _, c :: l => endR (isR c) l
theorem nr_app : ∀ (w l : List Nat) (b : Bool), nr b (w ++ l) = (nr b w && nr (endR b w) l) := by
  intro w
  induction w with
  | nil => intro l b; simp [nr, endR]
  | cons c w ih => intro l b; simp only [List.cons_append, nr, endR, ih, Bool.and_assoc]
theorem fig_noR {c : Nat} (h : isFig c = true) : isR c = false := by
  rw [isR, fig_up h]
  simp [isFig] at h
  rw [beq_eq_false_iff_ne]; omega
theorem nr_figs : ∀ {w : List Nat} {b : Bool}, w.all isFig = true → nr b w = true := by
  intro w
  induction w with
  | nil => intro b _; rfl
  | cons c w ih =>
    intro b h
    rw [List.all_cons, Bool.and_eq_true] at h
    rw [nr, fig_noR h.1, Bool.and_false, Bool.not_false, Bool.true_and]
    exact ih h.2
theorem endR_figs : ∀ {w : List Nat} {b : Bool}, w.all isFig = true → w ≠ [] → endR b w = false := by
  intro w
  induction w with
  | nil => intro b _ h; exact absurd rfl h
  | cons c w ih =>
    intro b h _
    rw [List.all_cons, Bool.and_eq_true] at h
    rw [endR, fig_noR h.1]
    cases w with
    | nil => rfl
    | cons d w => exact ih h.2 (by simp)
theorem nr_no_error {cs : List Nat} {b : Bool} (h : nr b cs = true) : ∀ i, i < cs.length → isWord (cs.getD i 0) = true → wordOf cs i (runEnd isWord cs i) ≠ wERROR := by
  intro i hi _ e
  have h1 : nr (endR b (cs.take i)) (cs.drop i) = true := by
    rw [← List.take_append_drop i cs, nr_app, Bool.and_eq_true] at h
    exact h.2
  unfold wordOf wERROR at e
  generalize cs.drop i = l at e h1
  generalize runEnd isWord cs i - i = n at e
  match l, n, e with
  | x0 :: x1 :: x2 :: r, n + 3, e =>
    simp only [List.take_succ_cons, List.map_cons, List.cons.injEq] at e
    simp [nr, isR, e.2.1, e.2.2.1] at h1
  | x0 :: x1 :: [], n, e => match n, e with
    | 0, e => simp at e
    | 1, e => simp at e
    | n + 2, e => simp at e
  | x0 :: [], n, e => match n, e with
    | 0, e => simp at e
    | n + 1, e => simp at e
  | [], n, e => simp at e
  | _, 0, e => simp at e
  | _ :: _, 1, e => simp at e
  | _ :: _ :: _, 2, e => simp at e
theorem menu_nr : ∀ y ∈ menu, nr false (codes y) = true ∧ endR false (codes y) = false := by decide +kernel
theorem piece_nr (k : Int) : nr false (codes (piece k)) = true ∧ endR false (codes (piece k)) = false := by
  unfold piece
  rw [List.getD]
  cases h : menu[(k.fmod 32).toNat]? with
  | none => exact ⟨rfl, rfl⟩
  | some y => exact menu_nr y (List.mem_of_getElem? h)
theorem pieces_nr : ∀ vals : List Int, nr false (((vals.map piece).map codes).flatten) = true := by
  intro vals
  induction vals with
  | nil => rfl
  | cons k r ih =>
    have h := piece_nr k
    simp only [List.map_cons, List.flatten_cons, nr_app, h.1, h.2, Bool.true_and]
    exact ih
theorem told_law {cs : List Nat} (h : nr false cs = true) : told cs (cs.length + 1) 0 [] = lawSpots cs (lawWords cs (cs.length + 1) 0) .out := by
  rw [told_rd (nr_no_error h) (by omega) (by decide), rd_of (by omega)]
theorem law_same (vals : List Int) {cs : List Nat} (h : cs = ((vals.map piece).map codes).flatten) : told cs (cs.length + 1) 0 [] = lawSpots cs (lawWords cs (cs.length + 1) 0) .out :=
  told_law (by rw [h]; exact pieces_nr vals)
theorem num_fold : ∀ (ds : List Nat) (g : Nat), ds.foldl (fun f c => min (10 * f + (c - 48)) 65530) (min g 65530) = min (ds.foldl (fun f c => f * 10 + (c - 48)) g) 65530 := by
  intro ds
  induction ds with
  | nil => intro g; rfl
  | cons d ds ih =>
    intro g
    rw [List.foldl_cons, List.foldl_cons, ← ih]
    rw [min_fold]
theorem num_same (ds : List Nat) : numTold ds = min (numLaw ds) 65530 := num_fold ds 0
theorem weave_none {cs : List Nat} : ∀ {S : List (Nat × Nat)} {a : Nat}, ChainTo a S cs.length → weave cs (fun _ => none) S a = cs.drop a := by
  intro S
  induction S with
  | nil => intro a _; rfl
  | cons p r ih =>
    intro a h
    have h1 := h.1
    have h2 := h.2.1
    rw [weave.eq_2, ih h.2.2]
    show (cs.drop a).take (p.1 - a) ++ (cs.drop p.1).take (p.2 - p.1) ++ cs.drop p.2 = _
    rw [List.append_assoc]
    have e1 : (cs.drop p.1).take (p.2 - p.1) ++ cs.drop p.2 = cs.drop p.1 := by
      rw [show cs.drop p.2 = (cs.drop p.1).drop (p.2 - p.1) by rw [List.drop_drop]; congr 1; omega]
      exact List.take_append_drop _ _
    rw [e1, show cs.drop p.1 = (cs.drop a).drop (p.1 - a) by rw [List.drop_drop]; congr 1; omega]
    exact List.take_append_drop _ _
end Mine

end

section
open PySem PySem.W PySem.Calls PySem.Spec PyProof.Rows PySem.StrLaws
namespace Mine
/-! the text in segments -/
/-- how the law's reader goes on at a piece: none, or whether it is a spot, and the next mood -/
noncomputable def act (m : Mood) (c : Nat) (w : List Nat) : Option (Bool × Mood) :=
  if m = .data then some (false, if c = 58 then .out else .data)
  else if c = 39 then none
  else if isWord c then
    if w.map up1 = wREM then none
    else if (m = .led ∨ m = .taken) ∧ (w.map up1).all isFig = true then some (decide (m = .led ∨ numTold w ≠ 0), if m = .led then .told else .none)
    else some (false, if w.map up1 = wRESUME then .taken else if wLEAD.contains (w.map up1) then .led else if w.map up1 = wDATA then .data else .out)
  else if c = 44 ∧ (m = .told ∨ m = .none) then some (false, if m = .told then .led else .taken)
  else if c = 32 then some (false, m)
  else some (false, .out)
theorem lawSpots_act {cs : List Nat} {p : Nat × Nat} {r : List (Nat × Nat)} {m : Mood} {c : Nat} {w : List Nat} (hc : cs.getD p.1 0 = c) (hw : (cs.drop p.1).take (p.2 - p.1) = w) :
    lawSpots cs (p :: r) m = match act m c w with | none => [] | some (b, m') => (if b then [p] else []) ++ lawSpots cs r m' := by
  subst hc; subst hw
  rw [lawSpots.eq_2, act]
  show _ = match (if m = .data then _ else _ : Option (Bool × Mood)) with | none => [] | some (b, m') => _
  unfold wordOf numAt
  split
  · rfl
  · split
    · rfl
    · split
      · split
        · rfl
        · split
          · simp only [decide_eq_true_eq]
          · rfl
      · split
        · rfl
        · split <;> rfl
/-- the length of the first piece -/
noncomputable def tokLen : List Nat → Nat
  | [] => 0
  | c :: l => if c = 34 then min ((l.takeWhile (· != 34)).length + 1) l.length + 1 else if isWord c then (l.takeWhile isWord).length + 1 else 1
theorem runEnd_take {p : Nat → Bool} {cs : List Nat} : ∀ {n i : Nat}, cs.length - i = n → runEnd p cs i = i + ((cs.drop i).takeWhile p).length := by
  intro n
  induction n with
  | zero => intro i h; rw [runEnd_end (by omega), List.drop_of_length_le (by omega)]; rfl
  | succ n ih =>
    intro i h
    have hi : i < cs.length := by omega
    have hd : cs.getD i 0 = cs[i] := by rw [List.getD, List.getElem?_eq_getElem hi]; rfl
    rw [List.drop_eq_getElem_cons hi]
    cases hp : p (cs.getD i 0) with
    | true => rw [runEnd_go hi hp, ih (by omega), List.takeWhile_cons, if_pos (by rw [← hd]; exact hp), List.length_cons]; omega
    | false => rw [runEnd_stop hp, List.takeWhile_cons, if_neg (by rw [← hd, hp]; exact Bool.false_ne_true)]; rfl
theorem lawEnd_tok {cs : List Nat} {a : Nat} (h : a < cs.length) : lawEnd cs a = a + tokLen (cs.drop a) := by
  have hd : cs.getD a 0 = cs[a] := by rw [List.getD, List.getElem?_eq_getElem h]; rfl
  rw [List.drop_eq_getElem_cons h, lawEnd, tokLen, hd]
  split
  · rw [quoteEnd, runEnd_take rfl, List.length_drop]; exact min_shift h
  · split
    · rw [runEnd_take rfl, Nat.add_assoc, Nat.add_comm 1]
    · rfl
theorem tok_pos (c : Nat) (l : List Nat) : 1 ≤ tokLen (c :: l) := by
  rw [tokLen]; split
  · omega
  · split <;> omega
theorem tok_le (c : Nat) (l : List Nat) : tokLen (c :: l) ≤ (c :: l).length := by
  rw [tokLen, List.length_cons]
  split
  · omega
  · split
    · have := (List.takeWhile_sublist isWord (l := l)).length_le; omega
    · omega
noncomputable def segs : Nat → List Nat → Mood → List (Bool × List Nat)
  | 0, _, _ => []
  | _ + 1, [], _ => []
  | k + 1, c :: l, m =>
    match act m c ((c :: l).take (tokLen (c :: l))) with
    | none => [(false, c :: l)]
    | some (b, m') => (b, (c :: l).take (tokLen (c :: l))) :: segs k ((c :: l).drop (tokLen (c :: l))) m'
noncomputable def spotsOf : Nat → List (Bool × List Nat) → List (Nat × Nat)
  | _, [] => []
  | a, (b, w) :: r => (if b then [(a, a + w.length)] else []) ++ spotsOf (a + w.length) r
noncomputable def flat (sg : List (Bool × List Nat)) : List Nat := (sg.map (·.2)).flatten
theorem spots_segs {cs : List Nat} : ∀ {k a : Nat} {m : Mood}, lawSpots cs (lawWords cs k a) m = spotsOf a (segs k (cs.drop a) m) := by
  intro k
  induction k with
  | zero => intro a m; rfl
  | succ k ih =>
    intro a m
    by_cases h : a < cs.length
    · have hd : cs.getD a 0 = cs[a] := by rw [List.getD, List.getElem?_eq_getElem h]; rfl
      have hl := lawEnd_tok h
      have hle : tokLen (cs.drop a) ≤ (cs.drop a).length := by rw [List.drop_eq_getElem_cons h]; exact tok_le _ _
      rw [lawWords_go h, lawSpots_act (p := (a, lawEnd cs a)) hd rfl]
      dsimp only
      rw [hl, Nat.add_sub_cancel_left]
      have e : cs.drop a = cs[a] :: cs.drop (a + 1) := List.drop_eq_getElem_cons h
      have e2 : segs (k + 1) (cs.drop a) m = match act m cs[a] ((cs.drop a).take (tokLen (cs.drop a))) with
          | none => [(false, cs.drop a)]
          | some (b, m') => (b, (cs.drop a).take (tokLen (cs.drop a))) :: segs k ((cs.drop a).drop (tokLen (cs.drop a))) m' := by rw [e]; rfl
      rw [e2]
      cases act m cs[a] ((cs.drop a).take (tokLen (cs.drop a))) with
      | none => rfl
      | some q =>
        obtain ⟨b, m'⟩ := q
        dsimp only
        rw [spotsOf.eq_2, List.length_take_of_le hle, ih, List.drop_drop]
    · rw [lawWords_end h, List.drop_of_length_le (by omega)]; rfl
theorem segs_nil (k : Nat) (m : Mood) : segs k [] m = [] := by cases k <;> rfl
theorem flat_segs : ∀ {k : Nat} {l : List Nat} {m : Mood}, l.length ≤ k → flat (segs k l m) = l := by
  intro k
  induction k with
  | zero => intro l m h; rw [List.length_eq_zero_iff.mp (Nat.le_zero.mp h)]; rfl
  | succ k ih =>
    intro l m h
    cases l with
    | nil => rfl
    | cons c l =>
      have h1 := tok_pos c l
      rw [segs.eq_3]
      split
      · simp [flat]
      · rename_i b m' _
        show (c :: l).take (tokLen (c :: l)) ++ flat (segs k _ m') = _
        rw [ih (by rw [List.length_drop]; omega)]
        exact List.take_append_drop _ _
/-- numbers put in -/
noncomputable def rep (f : List Nat → List Nat) (sg : List (Bool × List Nat)) : List (Bool × List Nat) := sg.map fun s => (s.1, if s.1 then f s.2 else s.2)
noncomputable def headWord : List Nat → Bool
  | [] => false
  | c :: _ => isWord c
theorem act_true {m m' : Mood} {c : Nat} {w : List Nat} (h : act m c w = some (true, m')) : isWord c = true ∧ w.all isFig = true ∧ ((m = .led ∧ m' = .told) ∨ (m = .taken ∧ numTold w ≠ 0 ∧ m' = .none)) := by
  unfold act at h
  split at h
  · cases h
  · split at h
    · cases h
    · split at h
      · rename_i hw
        split at h
        · cases h
        · split at h
          · rename_i hf
            rw [List.all_map] at hf
            have hf2 : w.all isFig = true := by
              have := hf.2
              rw [show (isFig ∘ up1) = isFig from funext up_isFig] at this
              exact this
            refine ⟨hw, hf2, ?_⟩
            simp only [Option.some.injEq, Prod.mk.injEq, decide_eq_true_eq] at h
            obtain ⟨h1, h2⟩ := h
            rcases hf.1 with rfl | rfl
            · exact .inl ⟨rfl, h2.symm⟩
            · rcases h1 with h1 | h1
              · cases h1
              · exact .inr ⟨rfl, h1, h2.symm⟩
          · cases h
      · split at h
        · cases h
        · split at h <;> cases h
theorem map_up_figs {w : List Nat} (h : w.all isFig = true) : (w.map up1).all isFig = true := by
  rw [List.all_map, show (isFig ∘ up1) = isFig from funext up_isFig]; exact h
theorem act_num {m m' : Mood} {c : Nat} {w : List Nat} (hc : isWord c = true) (hf : w.all isFig = true) (h : (m = .led ∧ m' = .told) ∨ (m = .taken ∧ numTold w ≠ 0 ∧ m' = .none)) : act m c w = some (true, m') := by
  have hf2 := map_up_figs hf
  have h39 : c ≠ 39 := fun e => by rw [e] at hc; exact absurd hc (by decide)
  unfold act
  rw [if_neg (by rintro rfl; rcases h with h | h <;> cases h.1), if_neg h39, if_pos hc, if_neg (figs_not hf2 (by decide)), if_pos ⟨h.imp (·.1) (·.1), hf2⟩]
  rcases h with ⟨rfl, rfl⟩ | ⟨rfl, h0, rfl⟩
  · rfl
  · simp [h0]
section
variable {f : List Nat → List Nat} (hf : ∀ w, w ≠ [] → w.all isFig = true → f w ≠ [] ∧ (f w).all isFig = true ∧ (numTold w ≠ 0 → numTold (f w) ≠ 0))
include hf
theorem rep_head : ∀ {k : Nat} {l : List Nat} {m : Mood}, l.length ≤ k → headWord (flat (rep f (segs k l m))) = headWord l ∧ (l = [] → flat (rep f (segs k l m)) = []) := by
  intro k l m h
  cases l with
  | nil => rw [segs_nil]; exact ⟨rfl, fun _ => rfl⟩
  | cons c l =>
    refine ⟨?_, fun h => by cases h⟩
    cases k with
    | zero => simp at h
    | succ k =>
      have h1 := tok_pos c l
      obtain ⟨n, hn⟩ : ∃ n, tokLen (c :: l) = n + 1 := ⟨_, (Nat.sub_add_cancel h1).symm⟩
      rw [segs.eq_3]
      split
      · rfl
      · rename_i b m' ha
        show headWord ((if b then f ((c :: l).take (tokLen (c :: l))) else (c :: l).take (tokLen (c :: l))) ++ flat (rep f (segs k _ m'))) = isWord c
        cases b with
        | false => rw [if_neg Bool.false_ne_true, hn]; rfl
        | true =>
          obtain ⟨a1, a2, -⟩ := act_true ha
          obtain ⟨f1, f2, -⟩ := hf _ (by rw [hn]; exact List.cons_ne_nil _ _) a2
          rw [if_pos rfl, a1]
          generalize f ((c :: l).take (tokLen (c :: l))) = w at f1 f2
          cases w with
          | nil => exact absurd rfl f1
          | cons d w =>
            rw [List.all_cons, Bool.and_eq_true] at f2
            exact fig_word f2.1
omit hf in
theorem takeWhile_app {p : Nat → Bool} : ∀ {w r : List Nat}, w.all p = true → (w ++ r).takeWhile p = w ++ r.takeWhile p := by
  intro w
  induction w with
  | nil => intro r _; rfl
  | cons c w ih =>
    intro r h
    rw [List.all_cons, Bool.and_eq_true] at h
    rw [List.cons_append, List.takeWhile_cons, if_pos h.1, ih h.2, List.cons_append]
omit hf in
theorem head_take {r : List Nat} (h : headWord r = false) : r.takeWhile isWord = [] := by
  cases r with
  | nil => rfl
  | cons c r => rw [List.takeWhile_cons, if_neg (by rw [show isWord c = false from h]; exact Bool.false_ne_true)]
omit hf in
theorem tok_word {c : Nat} {w r : List Nat} (hw : (c :: w).all isWord = true) (hr : headWord r = false) : tokLen (c :: w ++ r) = (c :: w).length := by
  rw [List.all_cons, Bool.and_eq_true] at hw
  rw [List.cons_append, tokLen, if_neg (fun e => by rw [e] at hw; exact absurd hw.1 (by decide)), if_pos hw.1, takeWhile_app hw.2, head_take hr, List.append_nil, List.length_cons]
omit hf in
theorem all_takeWhile {p : Nat → Bool} : ∀ l : List Nat, (l.takeWhile p).all p = true := by
  intro l
  induction l with
  | nil => rfl
  | cons c l ih =>
    rw [List.takeWhile_cons]
    split
    · rename_i h; rw [List.all_cons, h, ih]; rfl
    · rfl
omit hf in
theorem drop_takeWhile {p : Nat → Bool} : ∀ l : List Nat, (∀ c r, l.drop (l.takeWhile p).length = c :: r → p c = false) ∧ l.take (l.takeWhile p).length = l.takeWhile p := by
  intro l
  induction l with
  | nil => exact ⟨fun c r h => (by simp at h), rfl⟩
  | cons d l ih =>
    rw [List.takeWhile_cons]
    split
    · rw [List.length_cons, List.drop_succ_cons, List.take_succ_cons, ih.2]; exact ⟨ih.1, rfl⟩
    · rename_i h
      refine ⟨fun c r e => ?_, rfl⟩
      simp at e
      rw [← e.1]; simpa using h
omit hf in
/-- the first piece stays what it is when what follows changes -/
theorem tok_same {c : Nat} {l r : List Nat} (h1 : headWord r = headWord ((c :: l).drop (tokLen (c :: l)))) (h2 : (c :: l).drop (tokLen (c :: l)) = [] → r = []) :
    tokLen ((c :: l).take (tokLen (c :: l)) ++ r) = tokLen (c :: l) := by
  by_cases h34 : c = 34
  · subst h34
    obtain ⟨d1, d2⟩ := drop_takeWhile (p := (· != 34)) l
    have hle := (List.takeWhile_sublist (· != 34) (l := l)).length_le
    by_cases hq : (l.takeWhile (· != 34)).length = l.length
    · have hk : tokLen (34 :: l) = l.length + 1 := by rw [tokLen, if_pos rfl]; omega
      have : r = [] := h2 (by rw [hk, List.drop_succ_cons, List.drop_length])
      subst this
      rw [List.append_nil, List.take_of_length_le (by rw [hk, List.length_cons]; omega)]
    · have hk : tokLen (34 :: l) = (l.takeWhile (· != 34)).length + 2 := by rw [tokLen, if_pos rfl]; omega
      rw [hk, List.take_succ_cons, List.cons_append, tokLen, if_pos rfl]
      have hd : l.drop (l.takeWhile (· != 34)).length ≠ [] := fun e => by
        have := congrArg List.length e
        rw [List.length_drop] at this
        simp at this; omega
      obtain ⟨x, y, hxy⟩ := List.exists_cons_of_ne_nil hd
      have hx := d1 x y hxy
      have e : l.take ((l.takeWhile (· != 34)).length + 1) = l.takeWhile (· != 34) ++ [x] := by
        rw [List.take_add_one, d2]
        have : l[(l.takeWhile (· != 34)).length]? = some x := by
          have := congrArg (·[0]?) hxy
          simpa using this
        rw [this]; rfl
      rw [e, List.append_assoc, takeWhile_app (all_takeWhile l), List.singleton_append, List.takeWhile_cons, if_neg (by rw [hx]; exact Bool.false_ne_true), List.append_nil]
      simp
  · cases hw : isWord c with
    | true =>
      have hk : tokLen (c :: l) = (l.takeWhile isWord).length + 1 := by rw [tokLen, if_neg h34, if_pos hw]
      obtain ⟨d1, d2⟩ := drop_takeWhile (p := isWord) l
      rw [hk, List.drop_succ_cons] at h1
      rw [hk, List.take_succ_cons, d2, tok_word (by rw [List.all_cons, hw, all_takeWhile]; rfl), List.length_cons]
      rw [h1]
      cases hd : l.drop (l.takeWhile isWord).length with
      | nil => rfl
      | cons x y => exact d1 x y hd
    | false =>
      have hk : tokLen (c :: l) = 1 := by rw [tokLen, if_neg h34, if_neg (by rw [hw]; exact Bool.false_ne_true)]
      rw [hk]
      show tokLen (c :: ([] ++ r)) = 1
      rw [tokLen, if_neg h34, if_neg (by rw [hw]; exact Bool.false_ne_true)]
/-- read again, the text with the new numbers falls into the same segments -/
theorem segs_rep : ∀ {k : Nat} {l : List Nat} {m : Mood}, l.length ≤ k → ∀ {j : Nat}, (flat (rep f (segs k l m))).length ≤ j → segs j (flat (rep f (segs k l m))) m = rep f (segs k l m) := by
  intro k
  induction k with
  | zero => intro l m h j _; rw [segs.eq_1]; exact segs_nil j m
  | succ k ih =>
    intro l m h j hj
    cases l with
    | nil => exact segs_nil j m
    | cons c l =>
      have h1 := tok_pos c l
      obtain ⟨n, hn⟩ : ∃ n, tokLen (c :: l) = n + 1 := ⟨_, (Nat.sub_add_cancel h1).symm⟩
      have hrest : ((c :: l).drop (tokLen (c :: l))).length ≤ k := by rw [List.length_drop]; omega
      rw [segs.eq_3] at hj ⊢
      split at hj
      · rename_i ha
        have e : flat (rep f [(false, c :: l)]) = c :: l := by simp [flat, rep]
        rw [e] at hj ⊢
        obtain ⟨i, rfl⟩ : ∃ i, j = i + 1 := ⟨j - 1, by simp at hj; omega⟩
        rw [segs.eq_3, ha]
        rfl
      · rename_i b m' ha
        obtain ⟨hh, he⟩ := rep_head hf (m := m') hrest
        have ih2 := fun {j : Nat} => ih (m := m') hrest (j := j)
        revert hj
        show (List.length ((if b then f ((c :: l).take (tokLen (c :: l))) else (c :: l).take (tokLen (c :: l))) ++ flat (rep f (segs k ((c :: l).drop (tokLen (c :: l))) m'))) ≤ j) →
          segs j ((if b then f ((c :: l).take (tokLen (c :: l))) else (c :: l).take (tokLen (c :: l))) ++ flat (rep f (segs k ((c :: l).drop (tokLen (c :: l))) m'))) m =
            (b, if b then f ((c :: l).take (tokLen (c :: l))) else (c :: l).take (tokLen (c :: l))) :: rep f (segs k ((c :: l).drop (tokLen (c :: l))) m')
        generalize hR : flat (rep f (segs k ((c :: l).drop (tokLen (c :: l))) m')) = R at hh he ih2
        generalize rep f (segs k ((c :: l).drop (tokLen (c :: l))) m') = S at ih2
        intro hj
        -- what is needed of the piece put in
        obtain ⟨d, w, hdw, ht, hact⟩ : ∃ d w, (if b then f ((c :: l).take (tokLen (c :: l))) else (c :: l).take (tokLen (c :: l))) = d :: w ∧ tokLen (d :: w ++ R) = (d :: w).length ∧ act m d (d :: w) = some (b, m') := by
          cases b with
          | false =>
            refine ⟨c, l.take n, by rw [if_neg Bool.false_ne_true, hn]; rfl, ?_, ?_⟩
            · have e : c :: l.take n = (c :: l).take (tokLen (c :: l)) := by rw [hn]; rfl
              rw [e, tok_same hh he, List.length_take_of_le (tok_le c l)]
            · rw [← ha, hn]; rfl
          | true =>
            rw [if_pos rfl]
            obtain ⟨a1, a2, a3⟩ := act_true ha
            obtain ⟨f1, f2, f3⟩ := hf _ (by rw [hn]; exact List.cons_ne_nil _ _) a2
            obtain ⟨d, w, hdw⟩ := List.exists_cons_of_ne_nil f1
            rw [hdw] at f2 f3
            have hw2 : (d :: w).all isWord = true := List.all_eq_true.mpr fun x hx => fig_word (List.all_eq_true.mp f2 x hx)
            refine ⟨d, w, hdw, tok_word hw2 ?_, act_num ?_ f2 (a3.imp_right fun h => ⟨h.1, f3 h.2.1, h.2.2⟩)⟩
            · rw [hh]
              have hk : tokLen (c :: l) = (l.takeWhile isWord).length + 1 := by
                rw [tokLen, if_neg (fun e => by rw [e] at a1; exact absurd a1 (by decide)), if_pos a1]
              rw [hk, List.drop_succ_cons]
              cases hd : l.drop (l.takeWhile isWord).length with
              | nil => rfl
              | cons x y => exact (drop_takeWhile (p := isWord) l).1 x y hd
            · rw [List.all_cons, Bool.and_eq_true] at hw2; exact hw2.1
        rw [hdw] at hj ⊢
        obtain ⟨i, rfl⟩ : ∃ i, j = i + 1 := ⟨j - 1, by simp at hj; omega⟩
        rw [List.cons_append] at ht ⊢
        rw [segs.eq_3, ht]
        have e1 : (d :: (w ++ R)).take (d :: w).length = d :: w := by rw [← List.cons_append]; exact List.take_left' rfl
        have e2 : (d :: (w ++ R)).drop (d :: w).length = R := by rw [← List.cons_append]; exact List.drop_left' rfl
        rw [e1, e2, hact]
        dsimp only
        rw [ih2 (by simp at hj; omega)]
end
end Mine

end

section
open PySem PySem.W PySem.Calls PySem.Spec PyProof.Rows PySem.StrLaws
namespace Mine
/-- the new text of a number -/
noncomputable def newOf (turn : Nat → Option Nat) (w : List Nat) : List Nat :=
  match turn (numTold w) with
  | none => w
  | some v => codes (Str.ofString (toString (v : Int)))
theorem flat_cons (b : Bool) (w : List Nat) (r : List (Bool × List Nat)) : flat ((b, w) :: r) = w ++ flat r := rfl
theorem cut_here {cs w r : List Nat} {a : Nat} (h : cs.drop a = w ++ r) : (cs.drop a).take (a + w.length - a) = w ∧ cs.drop (a + w.length) = r := by
  constructor
  · rw [h, Nat.add_sub_cancel_left]; exact List.take_left' rfl
  · rw [← List.drop_drop, h]; exact List.drop_left' rfl
theorem spots_num {cs : List Nat} : ∀ {sg : List (Bool × List Nat)} {a : Nat}, cs.drop a = flat sg → (spotsOf a sg).map (numAt cs) = (sg.filter (·.1)).map fun s => numTold s.2 := by
  intro sg
  induction sg with
  | nil => intro a _; rfl
  | cons s r ih =>
    obtain ⟨b, w⟩ := s
    intro a h
    rw [flat_cons] at h
    obtain ⟨h1, h2⟩ := cut_here h
    rw [spotsOf.eq_2, List.map_append, ih h2]
    cases b with
    | false => rfl
    | true =>
      show numAt cs (a, a + w.length) :: _ = numTold w :: _
      rw [numAt, h1]
      rfl
theorem new_here {cs w r : List Nat} {a : Nat} (turn : Nat → Option Nat) (h : cs.drop a = w ++ r) : newAt cs turn (a, a + w.length) = newOf turn w := by
  unfold newAt newOf numAt
  dsimp only
  rw [(cut_here h).1]
  all_goals rfl
theorem spots_new {cs : List Nat} (turn : Nat → Option Nat) : ∀ {sg : List (Bool × List Nat)} {a : Nat}, cs.drop a = flat sg → (spotsOf a sg).map (fun p => numTold (newAt cs turn p)) = ((rep (newOf turn) sg).filter (·.1)).map fun s => numTold s.2 := by
  intro sg
  induction sg with
  | nil => intro a _; rfl
  | cons s r ih =>
    obtain ⟨b, w⟩ := s
    intro a h
    rw [flat_cons] at h
    obtain ⟨h1, h2⟩ := cut_here h
    rw [spotsOf.eq_2, List.map_append, ih h2]
    cases b with
    | false => rfl
    | true =>
      show numTold (newAt cs turn (a, a + w.length)) :: _ = numTold (newOf turn w) :: _
      rw [new_here turn h]
      rfl
theorem weave_flat {cs : List Nat} (turn : Nat → Option Nat) : ∀ {sg : List (Bool × List Nat)} {b a : Nat}, b ≤ a → cs.drop a = flat sg → weave cs turn (spotsOf a sg) b = (cs.drop b).take (a - b) ++ flat (rep (newOf turn) sg) := by
  intro sg
  induction sg with
  | nil =>
    intro b a hab h
    show cs.drop b = (cs.drop b).take (a - b) ++ []
    have := congrArg List.length h
    rw [List.length_drop] at this
    change _ = 0 at this
    rw [List.append_nil, List.take_of_length_le (by rw [List.length_drop]; omega)]
  | cons s r ih =>
    obtain ⟨q, w⟩ := s
    intro b a hab h
    rw [flat_cons] at h
    obtain ⟨h1, h2⟩ := cut_here h
    cases q with
    | true =>
      show (cs.drop b).take (a - b) ++ newAt cs turn (a, a + w.length) ++ weave cs turn (spotsOf (a + w.length) r) (a + w.length) = (cs.drop b).take (a - b) ++ (newOf turn w ++ flat (rep (newOf turn) r))
      rw [new_here turn h, ih (Nat.le_refl _) h2, Nat.sub_self, List.take_zero, List.nil_append, List.append_assoc]
    | false =>
      show weave cs turn (spotsOf (a + w.length) r) b = (cs.drop b).take (a - b) ++ (w ++ flat (rep (newOf turn) r))
      rw [ih (by omega) h2, ← List.append_assoc]
      congr 1
      rw [show a + w.length - b = (a - b) + w.length by omega, List.take_add, List.drop_drop, show b + (a - b) = a by omega]
      congr 1
      rw [Nat.add_sub_cancel_left] at h1
      exact h1
theorem segs_true {k : Nat} : ∀ {l : List Nat} {m : Mood}, ∀ s ∈ segs k l m, s.1 = true → s.2 ≠ [] ∧ s.2.all isFig = true := by
  induction k with
  | zero => intro l m s hs; cases hs
  | succ k ih =>
    intro l m s hs h
    cases l with
    | nil => cases hs
    | cons c l =>
      rw [segs.eq_3] at hs
      split at hs
      · rw [List.mem_singleton.mp hs] at h; cases h
      · rename_i b m' ha
        rcases List.mem_cons.mp hs with rfl | hs
        · cases h
          refine ⟨?_, (act_true ha).2.1⟩
          have h1 := tok_pos c l
          intro e
          have := congrArg List.length e
          rw [List.length_take_of_le (tok_le c l)] at this
          simp at this; omega
        · exact ih s hs h
theorem nr_rep {f : List Nat → List Nat} (hf : ∀ w, w ≠ [] → w.all isFig = true → f w ≠ [] ∧ (f w).all isFig = true) : ∀ {sg : List (Bool × List Nat)} {b : Bool}, (∀ s ∈ sg, s.1 = true → s.2 ≠ [] ∧ s.2.all isFig = true) → nr b (flat (rep f sg)) = nr b (flat sg) := by
  intro sg
  induction sg with
  | nil => intro b _; rfl
  | cons s r ih =>
    obtain ⟨q, w⟩ := s
    intro b h
    have hr := fun b => ih (b := b) (fun s hs => h s (List.mem_cons_of_mem _ hs))
    cases q with
    | false =>
      show nr b (w ++ flat (rep f r)) = nr b (w ++ flat r)
      rw [nr_app, nr_app, hr]
    | true =>
      obtain ⟨h1, h2⟩ := h _ List.mem_cons_self rfl
      obtain ⟨h3, h4⟩ := hf w h1 h2
      show nr b (f w ++ flat (rep f r)) = nr b (w ++ flat r)
      rw [nr_app, nr_app, nr_figs h4, nr_figs h2, endR_figs h4 h3, endR_figs h2 h1, hr]
/-- a number that may be put in -/
noncomputable def Good (v : Nat) : Prop := codes (Str.ofString (toString (v : Int))) ≠ [] ∧ (codes (Str.ofString (toString (v : Int)))).all isFig = true ∧ numTold (codes (Str.ofString (toString (v : Int)))) ≠ 0
theorem newOf_good {turn : Nat → Option Nat} (ht : ∀ k v, turn k = some v → Good v) : ∀ w, w ≠ [] → w.all isFig = true → newOf turn w ≠ [] ∧ (newOf turn w).all isFig = true ∧ (numTold w ≠ 0 → numTold (newOf turn w) ≠ 0) := by
  intro w h1 h2
  unfold newOf
  split
  · exact ⟨h1, h2, fun h => h⟩
  · rename_i v hv
    obtain ⟨g1, g2, g3⟩ := ht _ _ hv
    exact ⟨g1, g2, fun _ => g3⟩
/-- the woven text, read again -/
theorem due_read {cs : List Nat} (hn : nr false cs = true) {turn : Nat → Option Nat} (ht : ∀ k v, turn k = some v → Good v) {ds : List Nat} (hd : ds = weave cs turn (told cs (cs.length + 1) 0 []) 0) :
    (told ds (ds.length + 1) 0 []).map (numAt ds) = (told cs (cs.length + 1) 0 []).map fun p => numTold (newAt cs turn p) := by
  have hf := newOf_good ht
  have h1 : told cs (cs.length + 1) 0 [] = spotsOf 0 (segs (cs.length + 1) cs .out) := by rw [told_law hn, spots_segs, List.drop_zero]
  have hfl : flat (segs (cs.length + 1) cs .out) = cs := flat_segs (by omega)
  have h2 : ds = flat (rep (newOf turn) (segs (cs.length + 1) cs .out)) := by
    rw [hd, h1, weave_flat turn (Nat.le_refl _) (by rw [List.drop_zero]; exact hfl.symm)]
    rfl
  have hn2 : nr false ds = true := by rw [h2, nr_rep (fun w a b => ⟨(hf w a b).1, (hf w a b).2.1⟩) segs_true, hfl]; exact hn
  have h3 : segs (ds.length + 1) ds .out = rep (newOf turn) (segs (cs.length + 1) cs .out) := by
    have := segs_rep hf (k := cs.length + 1) (l := cs) (m := .out) (by omega) (j := ds.length + 1) (by rw [← h2]; omega)
    rw [← h2] at this
    exact this
  rw [h1, spots_new turn (by rw [List.drop_zero]; exact hfl.symm), told_law hn2, spots_segs, List.drop_zero, h3, spots_num (by rw [List.drop_zero]; exact h2)]
end Mine

end

section
open PySem PySem.W PySem.Calls PySem.Spec PyProof.Rows PySem.StrLaws
namespace Mine
/-- a frame as a letter, but for the names that are told -/
theorem fr_letter {h₀ h : Heap} {L : Addr} {m : Str → Option Value} (F : Fr h₀ L h m) (ps : List (Str × Value)) (hps : ∀ p ∈ ps, m p.1 = some p.2) : ∃ m₀, Fr h₀ L h (kstB m₀ ps) := ⟨m, fr_kst ps hps F⟩
/-- the law's new numbers -/
noncomputable def turnF (k0 : Int) (k : Nat) : Option Nat := if k = 10 then some (5 + (k0.fmod 9).toNat) else if k = 7 then some 1000 else if k = 0 then some 3 else if k = 65530 then some 20 else none
theorem same_ints (a b : Int) : Spec.same (PyData.int a) (PyData.int b) = (a == b) := by
  first | rfl | simp [Spec.same]
theorem turn_look {k0 : Int} (h0 : 0 ≤ k0) (a b c d e f g i : Tok) (k : Nat) :
    Spec.lookup (PyData.int (k : Int)) (intData [(.int 10 a, .int (5 + k0.fmod 9) b), (.int 7 c, .int 1000 d), (.int 0 e, .int 3 f), (.int 65530 g, .int 20 i)]) = (turnF k0 k).map fun (v : Nat) => PyData.int (v : Int) := by
  show Spec.lookup (PyData.int (k : Int)) [(PyData.int 10, PyData.int (5 + k0.fmod 9)), (PyData.int 7, PyData.int 1000), (PyData.int 0, PyData.int 3), (PyData.int 65530, PyData.int 20)] = _
  have hm : 0 ≤ k0.fmod 9 := Int.fmod_nonneg h0 (by decide)
  unfold turnF
  simp only [Spec.lookup, same_ints]
  by_cases h1 : k = 10
  · subst h1
    simp only [if_pos, Option.map_some]
    simp
    omega
  · by_cases h2 : k = 7
    · subst h2; simp
    · by_cases h3 : k = 0
      · subst h3; simp
      · by_cases h4 : k = 65530
        · subst h4; simp
        · have e1 : ((10 : Int) == (k : Int)) = false := by rw [beq_eq_false_iff_ne]; omega
          have e2 : ((7 : Int) == (k : Int)) = false := by rw [beq_eq_false_iff_ne]; omega
          have e3 : ((0 : Int) == (k : Int)) = false := by rw [beq_eq_false_iff_ne]; omega
          have e4 : ((65530 : Int) == (k : Int)) = false := by rw [beq_eq_false_iff_ne]; omega
          rw [if_neg h1, if_neg h2, if_neg h3, if_neg h4, e1, e2, e3, e4]
          rfl
theorem turn_vals {k0 : Int} (h0 : 0 ≤ k0) {k v : Nat} (h : turnF k0 k = some v) : v = 3 ∨ v = 20 ∨ v = 1000 ∨ (5 ≤ v ∧ v ≤ 13) := by
  have h1 : 0 ≤ k0.fmod 9 := Int.fmod_nonneg h0 (by decide)
  have h2 : k0.fmod 9 < 9 := Int.fmod_lt_of_pos _ (by decide)
  unfold turnF at h
  split at h
  · cases h; omega
  · split at h
    · cases h; omega
    · split at h
      · cases h; omega
      · split at h
        · cases h; omega
        · cases h
theorem turn_small {k0 : Int} (h0 : 0 ≤ k0) : ∀ k v, turnF k0 k = some v → v < 100000 := by
  intro k v h
  have := turn_vals h0 h
  omega
theorem good_at {v : Nat} (h : (codes (Str.ofString (toString (v : Int))) != [] && (codes (Str.ofString (toString (v : Int)))).all isFig && numTold (codes (Str.ofString (toString (v : Int)))) != 0 && decide ((codes (Str.ofString (toString (v : Int)))).length ≤ 5)) = true) : Good v ∧ (codes (Str.ofString (toString (v : Int)))).length ≤ 5 := by
  simp only [Bool.and_eq_true, bne_iff_ne, ne_eq, decide_eq_true_eq] at h
  exact ⟨⟨h.1.1.1, h.1.1.2, h.1.2⟩, h.2⟩
theorem pick12 {P : Nat → Prop} {v : Nat} (h : v = 3 ∨ v = 20 ∨ v = 1000 ∨ (5 ≤ v ∧ v ≤ 13)) (a : ∀ i < 9, P (5 + i)) (b : P 3) (c : P 20) (d : P 1000) : P v := by
  rcases h with rfl | rfl | rfl | ⟨h1, h2⟩
  · exact b
  · exact c
  · exact d
  · have := a (v - 5) (Nat.lt_of_le_of_lt (Nat.sub_le_sub_right h2 5) (by decide))
    rwa [Nat.add_sub_cancel' h1] at this
theorem turn_five {k0 : Int} (h0 : 0 ≤ k0) : ∀ k v, turnF k0 k = some v → Good v ∧ (codes (Str.ofString (toString (v : Int)))).length ≤ 5 := by
  intro k v h
  refine pick12 (P := fun v => Good v ∧ (codes (Str.ofString (toString (v : Int)))).length ≤ 5) (turn_vals h0 h) ?_ (good_at (by decide +kernel)) (good_at (by decide +kernel)) (good_at (by decide +kernel))
  intro i hi
  have : ∀ i < 9, (codes (Str.ofString (toString ((5 + i : Nat) : Int))) != [] && (codes (Str.ofString (toString ((5 + i : Nat) : Int)))).all isFig && numTold (codes (Str.ofString (toString ((5 + i : Nat) : Int)))) != 0 && decide ((codes (Str.ofString (toString ((5 + i : Nat) : Int)))).length ≤ 5)) = true := by decide +kernel
  exact good_at (this i hi)
theorem weave_len {cs : List Nat} {turn : Nat → Option Nat} (h5 : ∀ k v, turn k = some v → Good v ∧ (codes (Str.ofString (toString (v : Int)))).length ≤ 5) : ∀ {S : List (Nat × Nat)} {a : Nat}, ChainTo a S cs.length → (weave cs turn S a).length + a ≤ cs.length + 5 * S.length := by
  intro S
  induction S with
  | nil => intro a h; rw [weave.eq_1, List.length_drop]; have : a ≤ cs.length := h; simp only [List.length_nil]; omega
  | cons p r ih =>
    intro a h
    have h1 := h.1
    have h2 := h.2.1
    have h3 := ih h.2.2
    have h4 := chain_le h.2.2
    have h6 : (newAt cs turn p).length ≤ p.2 - p.1 + 5 := by
      unfold newAt
      split
      · rw [List.length_take]; omega
      · rename_i v hv
        have := (h5 _ _ hv).2
        omega
    rw [weave.eq_2, List.length_append, List.length_append, List.length_cons]
    exact weave_nat h1 h2 (List.length_take_le _ _) h6 h3
end Mine

end

section
open PySem PySem.W PySem.Calls PyProof.Rows
namespace Mine
set_option maxRecDepth 100000

/-- a mark: the walk stops here -/
structure Stop (P : Prop) : Prop where
  out : P

theorem room_of {a d : Nat} (h : a + d < recursionLimit) : a < recursionLimit := by omega
/-- a call's surroundings, written out -/
noncomputable abbrev ar (dp un : Nat) (gd : Option (List Code)) (fr : List Env) : Around := { handled := none, depth := dp, frames := some fr, guards := gd, units := un }

/-- the ground below a call: the frames, the written part, the top -/
structure Gnd (w : World) (mean : ExcName → Option Value) (mg mb : Str → Option Value) (dp un : Nat) (gd : Option (List Code)) (base : Heap) (fr : List Env) (g : Heap) : Prop where
  B : Below (ar dp un gd fr) base fr g
  X : (hd.heap_39 w.params).In g
  T : Top hd.view_39 (looseW hd.view_39 [Str.ofString "_law_pieces"]) mean mg mb g

/-- h stands over g, and bears the ledger -/
structure Over (g h : Heap) (news : List (Addr × Obj)) : Prop where
  keep : ∀ b o, g.get? b = some o → h.get? b = some o
  size : g.objs.size ≤ h.objs.size
  news : ∀ p ∈ news, h.get? p.1 = some p.2 ∧ g.get? p.1 = none

/-- what a call of the def at f with the values vs does, wherever it is called -/
noncomputable def Says (w : World) (mean : ExcName → Option Value) (mg mb : Str → Option Value) (f : Addr) (d : Nat) (news : List (Addr × Obj)) (vs : List Value) (Out : Value → List (Addr × Obj) → Prop) : Prop :=
  ∀ (dp un : Nat) (gd : Option (List Code)) (base : Heap) (fr : List Env) (g : Heap) (s : Shared) (Q E : Value → Shared → Prop),
    Gnd w mean mg mb dp un gd base fr g → Over g s.heap news → dp + d < recursionLimit → un + 8 * d < cLine →
    (∀ (r : Value) (news' : List (Addr × Obj)) (h' : Heap) (tk' : Nat), Over g h' news' → Out r news' → Q r { s with heap := h', toks := tk' }) →
    wpAny (model PySem.Challenge.rw_pf0003_01.row.prog w) (ar dp un gd fr) (call (.ref f) vs) Q E s

theorem over_of {g h : Heap} {L : Addr} {m : Str → Option Value} {news : List (Addr × Obj)} (F : Fr g L h m) (N : News g L h news) : Over g h news :=
  ⟨F.keep, Nat.le_of_lt (Nat.lt_of_le_of_lt F.above F.ns.lt), fun p hp => ⟨(N p hp).1, (N p hp).2.2⟩⟩

section
variable {prog : Program} {w : World} {A : Around} {g : Heap} {s : Shared} {K : Frag} {p : Program} {loose : List Str} {mean : ExcName → Option Value} {mg mb : Str → Option Value} {news : List (Addr × Obj)}
  {R : Result → Shared → Prop} {name qual : Str} {params : Arguments} {body : List Stmt} {scope : Scope} {dV kV doc pm cdv ct oc : Value} {an od : Option Addr} {osl : Array (Option Value)} {f : Addr} {args : Args} {binds : List (Str × Value)}

theorem enter_plain (O : Over g s.heap news) (X : K.In g) (T : Top p loose mean mg mb g)
    (ho : K.lookup f = some ⟨oc, od, .func (fnOf name qual params body scope dV kV doc pm an cdv ct), osl⟩) (hcd : codeIn K cdv qual = true) (hroom : A.depth < recursionLimit)
    (hbind : BindsTo s (fnOf name qual params body scope dV kV doc pm an cdv ct) args binds) (hloc : ∀ y ∈ binds, scope.names.lookup y.1 = some .local)
    (h : ∀ L' h₁ tk, Fr g L' h₁ (fun y => binds.reverse.lookup y) → News g L' h₁ news →
      wpAny (model prog w) (A.deeper (envOf qual scope L' f cdv)) (execs body (envOf qual scope L' f cdv))
        (fun fl s' => R (.ok (.ret (match fl with | .ret v => v | _ => .none))) s')
        (fun e s' => wpAny (model prog w) (A.deeper (envOf qual scope L' f cdv)) (leaving (envOf qual scope L' f cdv) e) (fun _ s'' => R (.error e) s'') (fun e' s'' => R (.error e') s'') s')
        { s with heap := h₁, toks := tk })
    (hco : scope.isCoroutine = false) (hgen : scope.isGenerator = false) (hk : scope.kind = .function)
    (hcell : ∀ x ∈ scope.names, x.2 ≠ .cell) : codeAny (model prog w) A (.call (.ref f) args) R s := by
  refine codeAny_call_def (fd := fnX name qual params body scope [] dV kV doc pm an cdv ct) (body := body) (binds := binds) hroom ((X.keeps O.keep) _ _ ho) rfl (T.nolimit.keeps O.keep) (codeRec_of (X.keeps O.keep) hcd) rfl hbind hcell hloc (fun h₁ hns hk₁ => ?_) hco hgen hk
  refine h s.heap.objs.size h₁ _ ⟨hns, fun b o e => hk₁ b o (O.keep b o e), O.size⟩ (fun q hq => ⟨hk₁ _ _ (O.news q hq).1, Nat.ne_of_lt (Heap.lt_size (O.news q hq).1), (O.news q hq).2⟩)

theorem enter_cells (O : Over g s.heap news) (X : K.In g) (T : Top p loose mean mg mb g)
    (ho : K.lookup f = some ⟨oc, od, .func (fnOf name qual params body scope dV kV doc pm an cdv ct), osl⟩) (hcd : codeIn K cdv qual = true) (hroom : A.depth < recursionLimit)
    (hbind : BindsTo s (fnOf name qual params body scope dV kV doc pm an cdv ct) args binds) (hkind : (binds.all fun y => scope.names.lookup y.1 == some .local || scope.names.lookup y.1 == some .cell) = true)
    (hnd : ((cellsFrom 0 scope.names []).map (·.1)).Nodup)
    (h : ∀ L' h₁ tk cells, Fr g L' h₁ (bindL (envOfC qual scope L' f cdv).kindOf binds fun _ => none) → News g L' h₁ (cells ++ news) →
      CellsAre (bindC (envOfC qual scope L' f cdv).kindOf binds fun _ => none) (cellsFrom (L' + 1) scope.names []) cells → (∀ q ∈ news, q.1 < L') →
      wpAny (model prog w) (A.deeper (envOfC qual scope L' f cdv)) (execs body (envOfC qual scope L' f cdv))
        (fun fl s' => R (.ok (.ret (match fl with | .ret v => v | _ => .none))) s')
        (fun e s' => wpAny (model prog w) (A.deeper (envOfC qual scope L' f cdv)) (leaving (envOfC qual scope L' f cdv) e) (fun _ s'' => R (.error e) s'') (fun e' s'' => R (.error e') s'') s')
        { s with heap := h₁, toks := tk })
    (hco : scope.isCoroutine = false) (hgen : scope.isGenerator = false) (hk : scope.kind = .function) : codeAny (model prog w) A (.call (.ref f) args) R s := by
  refine codeAny_call_function hroom ((X.keeps O.keep) _ _ ho) rfl hco hgen rfl (codeRec_of (X.keeps O.keep) hcd) (hbind _ _ _ _ ?_)
  refine wpAny_newFunctionEnv_cells hk (kindsX hkind _) fun env' he s' x => ?_
  subst he
  refine ⟨(T.nolimit.keeps O.keep).keeps x.toInCall.keep, codeAny_func ?_⟩
  obtain ⟨h₁, tk, rfl, _⟩ := x.done
  have hk₁ := x.toInCall.keep
  obtain ⟨cells, NC, Y⟩ := Cl.news (h₀ := s.heap) (Nat.le_refl _) fun n c hm => ⟨x.cell n c (lookup_of_mem_nodup (cellsFrom_names scope.names 0 (s.heap.objs.size + 1) [] [] rfl ▸ hnd) hm), x.above n c hm⟩
  refine h s.heap.objs.size h₁ tk cells ⟨x.toInCall.ns, fun b o e => hk₁ b o (O.keep b o e), O.size⟩ (fun q hq => ?_) Y (fun q hq => Heap.lt_size (O.news q hq).1)
  · rcases List.mem_append.mp hq with hq | hq
    · refine ⟨(NC q hq).1, (NC q hq).2.1, ?_⟩
      cases e : g.get? q.1 with
      | none => rfl
      | some o => have := O.keep _ _ e; rw [(NC q hq).2.2] at this; cases this
    · exact ⟨hk₁ _ _ (O.news q hq).1, Nat.ne_of_lt (Heap.lt_size (O.news q hq).1), (O.news q hq).2⟩
end

section
variable {w : World} {mean : ExcName → Option Value} {mg mb : Str → Option Value} {f : Addr} {d : Nat} {mv rest : List (Addr × Obj)} {vs : List Value} {Out : Value → List (Addr × Obj) → Prop}
  {A₀ : Around} {dp un : Nat} {gd : Option (List Code)} {base h₀ : Heap} {outer : List Env} {env : Env} {L : Addr} {m : Str → Option Value} {s : Shared} {Q E : Value → Shared → Prop}

/-- the use of a def's word in a walk: mv is the part of the ledger that the call may turn -/
theorem Says.useM (C : Says w mean mg mb f d mv vs Out) (B : Below A₀ base outer h₀) (F : Fr h₀ L s.heap m) (X : (hd.heap_39 w.params).In h₀)
    (T : Top hd.view_39 (looseW hd.view_39 [Str.ofString "_law_pieces"]) mean mg mb h₀) (N : News h₀ L s.heap (mv ++ rest)) (hoff : ∀ p ∈ mv, ∀ q ∈ rest, p.1 ≠ q.1)
    (hf : env.frame = some L) (hk : env.scope.kind = .function) (hd : dp + d < recursionLimit) (hu : un + 8 * d < cLine)
    (h : ∀ r news' h' tk', Fr h₀ L h' m → News h₀ L h' (news' ++ rest) → (∀ p ∈ news', ∀ q ∈ rest, p.1 ≠ q.1) → (∀ b o, s.heap.get? b = some o → b ∉ mv.map (·.1) → h'.get? b = some o) →
      (∀ p ∈ news', ∀ b o, s.heap.get? b = some o → b ∉ mv.map (·.1) → p.1 ≠ b) → Out r news' → Q r { s with heap := h', toks := tk' }) :
    wpAny (model PySem.Challenge.rw_pf0003_01.row.prog w) (ar dp un gd (env :: outer)) (call (.ref f) vs) Q E s := by
  have Nm : News h₀ L s.heap mv := fun p hp => N p (List.mem_append.mpr (.inl hp))
  obtain ⟨FG, BG, st, -⟩ := groundX (R := fun _ _ => True) (A := ar dp un gd (env :: outer)) B F Nm rfl hf hk
  have kept : ∀ h' news', Over (hideAll s.heap (mv.map (·.1))) h' news' → ∀ b o, s.heap.get? b = some o → b ∉ mv.map (·.1) → h'.get? b = some o := fun h' news' O b o e n => O.keep b o (hideAll_get _ e n)
  have newer : ∀ h' news', Over (hideAll s.heap (mv.map (·.1))) h' news' → ∀ p ∈ news', ∀ b o, s.heap.get? b = some o → b ∉ mv.map (·.1) → p.1 ≠ b := fun h' news' O p hp b o e n q => by
    have := (O.news p hp).2
    rw [q, hideAll_get _ e n] at this
    cases this
  have offm : ∀ q ∈ rest, q.1 ∉ mv.map (·.1) := fun q hq hm => by
    obtain ⟨p, hp, e⟩ := List.mem_map.mp hm
    exact hoff p hp q hq e
  have nL : L ∉ mv.map (·.1) := fun hm => by
    obtain ⟨p, hp, e⟩ := List.mem_map.mp hm
    exact (Nm p hp).2.1 e
  refine C dp un gd base (env :: outer) (hideAll s.heap (mv.map (·.1))) s Q E ⟨BG, X.keeps (fun b o e => st b o e), T.keeps (fun b o e => st b o e)⟩ ⟨fun b o e => of_hideAll _ e, Nat.le_of_eq (hideAll_size _ _), fun p hp => ⟨(Nm p hp).1, hideAll_none _ (List.mem_map_of_mem hp)⟩⟩ hd hu ?_
  intro r news' h' tk' O hO
  refine h r news' h' tk' ?_ ?_ ?_ (kept h' news' O) (newer h' news' O) hO
  · obtain ⟨oL, es, ep, hL, r⟩ := F.ns
    exact ⟨⟨oL, es, ep, kept _ _ O _ _ hL nL, r⟩, fun b o e => O.keep b o (st b o e), F.above⟩
  · intro p hp
    rcases List.mem_append.mp hp with hp | hp
    · refine ⟨(O.news p hp).1, ?_, ?_⟩
      · obtain ⟨oL, es, ep, hL, r⟩ := F.ns
        exact newer _ _ O p hp L oL hL nL
      · cases q : h₀.get? p.1 with
        | none => rfl
        | some o => have := (O.news p hp).2; rw [st _ _ q] at this; cases this
    · have z := N p (List.mem_append.mpr (.inr hp))
      exact ⟨kept _ _ O _ _ z.1 (offm p hp), z.2⟩
  · intro p hp q hq
    have z := N q (List.mem_append.mpr (.inr hq))
    exact newer _ _ O p hp _ _ z.1 (offm q hq)

/-- the use of a def that turns nothing -/
theorem Says.use {news : List (Addr × Obj)} (C : Says w mean mg mb f d [] vs Out) (B : Below A₀ base outer h₀) (F : Fr h₀ L s.heap m) (X : (hd.heap_39 w.params).In h₀)
    (T : Top hd.view_39 (looseW hd.view_39 [Str.ofString "_law_pieces"]) mean mg mb h₀) (N : News h₀ L s.heap news)
    (hf : env.frame = some L) (hk : env.scope.kind = .function) (hd : dp + d < recursionLimit) (hu : un + 8 * d < cLine)
    (h : ∀ r own h' tk', Fr h₀ L h' m → News h₀ L h' (own ++ news) → (∀ p ∈ own, ∀ q ∈ news, p.1 ≠ q.1) → (∀ b o, s.heap.get? b = some o → h'.get? b = some o) → (∀ p ∈ own, ∀ b o, s.heap.get? b = some o → p.1 ≠ b) → Out r own → Q r { s with heap := h', toks := tk' }) :
    wpAny (model PySem.Challenge.rw_pf0003_01.row.prog w) (ar dp un gd (env :: outer)) (call (.ref f) vs) Q E s :=
  Says.useM (mv := []) (rest := news) C B F X T N (fun _ hp => nomatch hp) hf hk hd hu fun r own h' tk' F' N' o k n O => h r own h' tk' F' N' o (fun b o' e => k b o' e (fun q => nomatch q)) (fun p hp b o' e => n p hp b o' e (fun q => nomatch q)) O

theorem Says.useD {g : Heap} {fr : List Env} {news : List (Addr × Obj)} (C : Says w mean mg mb f d [] vs Out) (G : Gnd w mean mg mb dp un gd base fr g) (F : Fr g L s.heap m) (N : News g L s.heap news)
    (hf : env.frame = some L) (hk : env.scope.kind = .function) (hd : dp + (d + 1) < recursionLimit) (hu : un + 8 * (d + 1) < cLine)
    (h : ∀ r own h' tk', Fr g L h' m → News g L h' (own ++ news) → (∀ p ∈ own, ∀ q ∈ news, p.1 ≠ q.1) → (∀ b o, s.heap.get? b = some o → h'.get? b = some o) → (∀ p ∈ own, ∀ b o, s.heap.get? b = some o → p.1 ≠ b) → Out r own → Q r { s with heap := h', toks := tk' }) :
    wpAny (model PySem.Challenge.rw_pf0003_01.row.prog w) ((ar dp un gd fr).deeper env) (call (.ref f) vs) Q E s :=
  Says.use (dp := dp + 1) (un := un + 3) (outer := fr) C G.B F G.X G.T N hf hk (by omega) (by omega) h
theorem Says.useDM {g : Heap} {fr : List Env} (C : Says w mean mg mb f d mv vs Out) (G : Gnd w mean mg mb dp un gd base fr g) (F : Fr g L s.heap m) (N : News g L s.heap (mv ++ rest)) (hoff : ∀ p ∈ mv, ∀ q ∈ rest, p.1 ≠ q.1)
    (hf : env.frame = some L) (hk : env.scope.kind = .function) (hd : dp + (d + 1) < recursionLimit) (hu : un + 8 * (d + 1) < cLine)
    (h : ∀ r news' h' tk', Fr g L h' m → News g L h' (news' ++ rest) → (∀ p ∈ news', ∀ q ∈ rest, p.1 ≠ q.1) → (∀ b o, s.heap.get? b = some o → b ∉ mv.map (·.1) → h'.get? b = some o) →
      (∀ p ∈ news', ∀ b o, s.heap.get? b = some o → b ∉ mv.map (·.1) → p.1 ≠ b) → Out r news' → Q r { s with heap := h', toks := tk' }) :
    wpAny (model PySem.Challenge.rw_pf0003_01.row.prog w) ((ar dp un gd fr).deeper env) (call (.ref f) vs) Q E s :=
  Says.useM (dp := dp + 1) (un := un + 3) (outer := fr) C G.B F G.X G.T N hoff hf hk (by omega) (by omega) h
end

section
variable {prog : Program} {w : World} {A : Around} {E : Value → Shared → Prop} {Q : Flow → Shared → Prop} {s : Shared} {env : Env} {h₀ : Heap} {L : Addr}
/-- the last statement of a row hands its end on as it is -/
theorem execs_one {st : Stmt} (h : wpAny (model prog w) A (exec st env) Q E s) : wpAny (model prog w) A (execs [st] env) Q E s := by
  refine wpAny_execs_cons (wpAny_mono h (fun f s₂ q => ?_) fun _ _ x => x)
  cases f with
  | next => exact wpAny_execs_nil q
  | brk => exact q
  | cont => exact q
  | ret v => exact q
/-- a while loop by a state; what the turn must reach is a letter -/
theorem ksw_whileP {σ : Type} {test : Expr} {body : List Stmt} {pos : Pos} {m₀ : Str → Option Value} (Led : σ → List (Addr × Obj)) (ps : σ → List (Str × Value)) (Facts : σ → Prop) (stored : List Str) (P : σ → Prop) (μ : σ → Nat) (c₀ : σ)
    (F : Fr h₀ L s.heap m₀) (N : News h₀ L s.heap (Led c₀)) (hf : Facts c₀) (hk : ∀ p ∈ ps c₀, m₀ p.1 = some p.2) (hp : P c₀)
    (turn : ∀ (m₀ : Str → Option Value) (c : σ) (u : Str → Option Value) h tk (Post : Flow → Shared → Prop), Facts c → P c → (∀ f s₂, KswPost h₀ L s Led ps Facts stored m₀ P μ Q c f s₂ → Post f s₂) →
      Fr h₀ L h (kstB (fun z => if stored.contains z then u z else m₀ z) (ps c)) → News h₀ L h (Led c) →
      wpAny (model prog w) A (isTrue test env (eval test env)) (fun b s₂ =>
        if b = true then wpAny (model prog w) A (execs body env) Post E s₂ else Q .next s₂) E { s with heap := h, toks := tk })
    (hE : PassesOwn (model prog w) A env E := by passes_own) :
    wpAny (model prog w) A (exec (.While test body [] pos) env) Q E s :=
  ksw_while Led ps Facts stored P μ c₀ F N hf hk hp (fun c u h tk a b F N => turn m₀ c u h tk _ a b (fun _ _ x => x) F N) hE
/-- the same, the test, the body and the end each by itself: however the test comes to its answer, the body and the end are walked once -/
theorem ksw_whileT {σ : Type} {test : Expr} {body : List Stmt} {pos : Pos} {m₀ : Str → Option Value} (Led : σ → List (Addr × Obj)) (ps : σ → List (Str × Value)) (Facts : σ → Prop) (stored : List Str) (P : σ → Prop) (μ : σ → Nat) (Y X : σ → Prop) (c₀ : σ)
    (F : Fr h₀ L s.heap m₀) (N : News h₀ L s.heap (Led c₀)) (hf : Facts c₀) (hk : ∀ p ∈ ps c₀, m₀ p.1 = some p.2) (hp : P c₀)
    (htest : ∀ (m₀ : Str → Option Value) (c : σ) (u : Str → Option Value) h tk (Yes No : Shared → Prop), Facts c → P c →
      (∀ h' tk', Fr h₀ L h' (kstB (fun z => if stored.contains z then u z else m₀ z) (ps c)) → News h₀ L h' (Led c) → Y c → Yes { s with heap := h', toks := tk' }) →
      (∀ h' tk', Fr h₀ L h' (kstB (fun z => if stored.contains z then u z else m₀ z) (ps c)) → News h₀ L h' (Led c) → X c → No { s with heap := h', toks := tk' }) →
      Fr h₀ L h (kstB (fun z => if stored.contains z then u z else m₀ z) (ps c)) → News h₀ L h (Led c) →
      wpAny (model prog w) A (isTrue test env (eval test env)) (fun b s₂ => if b = true then Yes s₂ else No s₂) E { s with heap := h, toks := tk })
    (hbody : ∀ (m₀ : Str → Option Value) (c : σ) (u : Str → Option Value) h tk (Post : Flow → Shared → Prop), Facts c → P c → Y c → (∀ f s₂, KswPost h₀ L s Led ps Facts stored m₀ P μ Q c f s₂ → Post f s₂) →
      Fr h₀ L h (kstB (fun z => if stored.contains z then u z else m₀ z) (ps c)) → News h₀ L h (Led c) → wpAny (model prog w) A (execs body env) Post E { s with heap := h, toks := tk })
    (hfin : ∀ (m₀ : Str → Option Value) (c : σ) (u : Str → Option Value) h tk, Facts c → P c → X c → Fr h₀ L h (kstB (fun z => if stored.contains z then u z else m₀ z) (ps c)) → News h₀ L h (Led c) → Q .next { s with heap := h, toks := tk })
    (hE : PassesOwn (model prog w) A env E := by passes_own) :
    wpAny (model prog w) A (exec (.While test body [] pos) env) Q E s :=
  ksw_while Led ps Facts stored P μ c₀ F N hf hk hp (fun c u h tk a b F N => htest m₀ c u h tk _ _ a b
    (fun h' tk' F' N' y => hbody m₀ c u h' tk' _ a b y (fun _ _ x => x) F' N') (fun h' tk' F' N' x => hfin m₀ c u h' tk' a b x F' N') F N) hE
/-- the same over a frame that is told -/
theorem ksw_whileS {σ : Type} {test : Expr} {body : List Stmt} {pos : Pos} {m₀ : Str → Option Value} (Led : σ → List (Addr × Obj)) (ps : σ → List (Str × Value)) (Facts : σ → Prop) (stored : List Str) (P : σ → Prop) (μ : σ → Nat) (Y X : σ → Prop) (c₀ : σ)
    (F : Fr h₀ L s.heap m₀) (N : News h₀ L s.heap (Led c₀)) (hf : Facts c₀) (hk : ∀ p ∈ ps c₀, m₀ p.1 = some p.2) (hp : P c₀)
    (htest : ∀ (c : σ) (u : Str → Option Value) h tk (Yes No : Shared → Prop), Facts c → P c →
      (∀ h' tk', Fr h₀ L h' (kstB (fun z => if stored.contains z then u z else m₀ z) (ps c)) → News h₀ L h' (Led c) → Y c → Yes { s with heap := h', toks := tk' }) →
      (∀ h' tk', Fr h₀ L h' (kstB (fun z => if stored.contains z then u z else m₀ z) (ps c)) → News h₀ L h' (Led c) → X c → No { s with heap := h', toks := tk' }) →
      Fr h₀ L h (kstB (fun z => if stored.contains z then u z else m₀ z) (ps c)) → News h₀ L h (Led c) →
      wpAny (model prog w) A (isTrue test env (eval test env)) (fun b s₂ => if b = true then Yes s₂ else No s₂) E { s with heap := h, toks := tk })
    (hbody : ∀ (c : σ) (u : Str → Option Value) h tk (Post : Flow → Shared → Prop), Facts c → P c → Y c → (∀ f s₂, KswPost h₀ L s Led ps Facts stored m₀ P μ Q c f s₂ → Post f s₂) →
      Fr h₀ L h (kstB (fun z => if stored.contains z then u z else m₀ z) (ps c)) → News h₀ L h (Led c) → wpAny (model prog w) A (execs body env) Post E { s with heap := h, toks := tk })
    (hfin : ∀ (c : σ) (u : Str → Option Value) h tk, Facts c → P c → X c → Fr h₀ L h (kstB (fun z => if stored.contains z then u z else m₀ z) (ps c)) → News h₀ L h (Led c) → Q .next { s with heap := h, toks := tk })
    (hE : PassesOwn (model prog w) A env E := by passes_own) :
    wpAny (model prog w) A (exec (.While test body [] pos) env) Q E s :=
  ksw_while Led ps Facts stored P μ c₀ F N hf hk hp (fun c u h tk a b F N => htest c u h tk _ _ a b
    (fun h' tk' F' N' y => hbody c u h' tk' _ a b y (fun _ _ x => x) F' N') (fun h' tk' F' N' x => hfin c u h' tk' a b x F' N') F N) hE
/-- a statement whose end is told once -/
theorem execs_join {st : Stmt} {rest : List Stmt} (D : Shared → Prop) (h1 : ∀ J : Flow → Shared → Prop, (∀ s', D s' → J .next s') → wpAny (model prog w) A (exec st env) J E s) (h2 : ∀ s', D s' → wpAny (model prog w) A (execs rest env) Q E s') :
    wpAny (model prog w) A (execs (st :: rest) env) Q E s := by
  refine wpAny_execs_cons (h1 _ fun s' d => ?_)
  exact h2 s' d
end

section
variable {M : Model} {A : Around} {E : Value → Shared → Prop} {s : Shared} {env : Env}
/-- where the walk is to stop -/
theorem stop_len {a : Addr} {Q : Value → Shared → Prop} (h : Stop (wpAny M A (call (.builtin "len") [.ref a]) Q E s)) : wpAny M A (call (.builtin "len") [.ref a]) Q E s := h.out
theorem stop_up {x : Str} {t : Tok} {a : Addr} {Q : Value → Shared → Prop} (h : Stop (wpAny M A (compareOp .In (.str (Txt.upper x) t) (.ref a)) Q E s)) : wpAny M A (compareOp .In (.str (Txt.upper x) t) (.ref a)) Q E s := h.out
theorem stop_sub {a b : Expr} {p q : Pos} {c : List Comprehension} {sc : Scope} {Q : Value → Shared → Prop} (h : Stop (wpAny M A (eval (.ListComp (.Subscript a b p) c sc q) env) Q E s)) : wpAny M A (eval (.ListComp (.Subscript a b p) c sc q) env) Q E s := h.out
theorem stop_num {p q r : Pos} {as : List Expr} {ks : List Keyword} {c : List Comprehension} {sc : Scope} {Q : Value → Shared → Prop} (h : Stop (wpAny M A (eval (.ListComp (.Call (.Name (Str.ofString "_law_number") p) as ks q) c sc r) env) Q E s)) :
    wpAny M A (eval (.ListComp (.Call (.Name (Str.ofString "_law_number") p) as ks q) c sc r) env) Q E s := h.out
theorem stop_src {prog : Program} {w : World} {h₀ : Heap} {L : Addr} {m : Str → Option Value} {a b : Expr} {p : Pos} {x : Str} {sc : Scope} {cl : List (Str × Addr)} {F : Shared → List Value → List (Addr × Obj) → Prop} {v : Value}
    (h : Stop (LCg.CompSrc prog w A h₀ L m env (.Subscript a b p) x sc cl F v s)) : LCg.CompSrc prog w A h₀ L m env (.Subscript a b p) x sc cl F v s := h.out
theorem stop_if {c : Expr} {b o r : List Stmt} {p : Pos} {st : Stmt} {Q : Flow → Shared → Prop} (h : Stop (wpAny M A (execs (.If c b o p :: st :: r) env) Q E s)) : wpAny M A (execs (.If c b o p :: st :: r) env) Q E s := h.out
theorem stop_none {e : Expr} {q p : Pos} {r : List Stmt} {Q : Flow → Shared → Prop} (h : Stop (wpAny M A (execs (.Assign [.Name (Str.ofString "is_none") q] e p :: r) env) Q E s)) : wpAny M A (execs (.Assign [.Name (Str.ofString "is_none") q] e p :: r) env) Q E s := h.out
/-- a call of a name, its values told one by one -/
theorem call_name {x : Str} {q p : Pos} {args : List Expr} {Q : Value → Shared → Prop}
    (h : wpAny M A (eval (.Name x q) env) (fun f s₁ => wpAny M A (callWith p f [] (backTo p (starEach args env)) []) Q E s₁) E s) : wpAny M A (eval (.Call (.Name x q) args [] p) env) Q E s := Call_ h
end

end Mine

end

section
open PySem PySem.W PySem.Calls PySem.Spec PyProof.Rows
namespace Mine
set_option maxRecDepth 100000
set_option maxHeartbeats 4000000
theorem fill_all : PySem.Challenge.rw_pf0003_01 = PySem.Challenge.rw_pf0003_01 ∧ hd.heap_39 = hd.heap_39 := by
  k_fill
  exact ⟨rfl, rfl⟩
local macro_rules
  | `(tactic| walk_at $s) => let k := s.getString; if k == "eval Call" then `(tactic| with_reducible refine call_name ?_) else if k == "compareOp In str ref" then `(tactic| with_reducible refine stop_up ?_) else if k == "newList" then `(tactic| (k_dflt (refine' newList_K ?_ ?_ ?_ (Nat.zero_le _); k_asm; k_asm; k_whole); intro _ _ _ _ l1; (try k_lt l1); (try k_sweep))) else if ["exec While BoolOp cons nil", "exec While Compare cons nil", "call ref", "exec For Name Name cons nil", "pyIter str", "pyIter ref", "call builtin:str.index", "call builtin:list.append", "call builtin:list.extend", "exec For Tuple Call cons nil", "exec For Tuple Name cons nil"].contains k then `(tactic| refine Stop.out ?_) else Lean.Macro.throwUnsupported

section
theorem number_told_says (w : World) (mean : ExcName → Option Value) (mg mb : Str → Option Value) (x : Str) (t : Tok) (hf : ∀ c ∈ codes x, isFig c = true) (hx : x.length ≤ 10000) :
    Says w mean mg mb 36 1 [] [.str x t] (fun r n => n = [] ∧ ∃ u, r = .int (numTold (codes x)) u) := by
  intro dp un gd base fr g s Q E G O hd hu hret
  obtain ⟨H₀, GS₀, DR₀, TK₀, OS₀⟩ := s
  dsimp only at O hret ⊢
  have ⟨B, X, T⟩ := G
  (refine wpAny_call ?_; k_dflt (refine' enter_plain ?k1 ?k3 ?k5 ?k6 ?k7 ?k8 ?k9 ?kB ?_ ?c2 ?c3 ?c4 ?c5; (case k1 => assumption); (case k3 => assumption); (case k5 => assumption); (case k6 => k_is); (case k7 => k_is); (case k8 => exact room_of (by assumption)); (case k9 => exact BindsTo.of_eq rfl); (case kB => exact locs rfl); (case c2 => exact rfl); (case c3 => exact rfl); (case c4 => exact rfl); (case c5 => decide); intro _ _ _ _ _; (try dsimp only); (try k_fold)))
  (with_reducible rename Fr _ _ _ _ => F'); (with_reducible rename News _ _ _ _ => N')
  k_steps
  refine Stop.mk ?_
  (with_reducible rename Fr _ _ _ _ => F'); (with_reducible rename News _ _ _ _ => N')
  refine For_invVF F' rfl rfl ?_
  k_steps
  refine Stop.mk ?_
  refine KStt.kst_text (σ := Int × Tok) (fun _ => []) (fun c => [(Str.ofString "found", .int c.1 c.2)]) (fun _ => True) [] (fun pre c => c.1 = numTold (pre.map Int.toNat)) (0, _) rfl F' N' trivial (List.forall_mem_cons.mpr ⟨rfl, fun _ h => nomatch h⟩) rfl ?_ ?_
  · rintro ⟨c, tc⟩ pre post n t₁ U h tk own hsp hown - hP F1 N1
    dsimp only at hP
    have hc : c ≤ 65530 ∧ 0 ≤ c := by
      rw [hP]
      have := numTold_le (pre.map Int.toNat) 0 (by omega)
      unfold numTold
      omega
    k_steps
    have hn : isFig n = true := hf n (by
      have : (n : Int) ∈ KStt.codes x := by rw [hsp]; simp
      unfold KStt.codes at this
      obtain ⟨m, hm, e⟩ := List.mem_map.mp this
      have : m = n := by exact_mod_cast e
      exact this ▸ hm)
    have hn' : 48 ≤ n ∧ n ≤ 57 := by simpa [isFig] using hn
    refine Stop.mk ?_
    refine SC.index (fig_occ hn) ?_
    k_steps
    (with_reducible rename Fr _ _ _ _ => F2); (with_reducible rename News _ _ _ _ => N2)
    refine kst_end (if (65529 + 1 : Int) < 10 * c + ((n - 48 : Nat) : Int) then 65529 + 1 else 10 * c + ((n - 48 : Nat) : Int), _) F2 N2 (fun _ h => nomatch h) (fun p hp => List.mem_append.mpr (.inr hp)) rfl trivial (List.forall_mem_cons.mpr ⟨rfl, fun _ h => nomatch h⟩) (same_putF (.inr (by simp)) (same_kstF rfl)) ?_
    dsimp only
    rw [hP]
    unfold numTold
    rw [List.map_append, List.foldl_append]
    simp only [List.map_cons, List.map_nil, List.foldl_cons, List.foldl_nil, Int.toNat_natCast]
    split <;> omega
  · rintro ⟨c, tc⟩ U h tk - hP F1 N1
    dsimp only at hP
    k_steps
    refine hret (.int c tc) _ _ _ (over_of F1 N1) ⟨rfl, tc, ?_⟩
    rw [hP, kcodes_nat]

theorem law_number_says (w : World) (mean : ExcName → Option Value) (mg mb : Str → Option Value) (x : Str) (t : Tok) (hf : ∀ c ∈ codes x, isFig c = true) (hx : x.length ≤ 1000) :
    Says w mean mg mb 131 1 [] [.str x t] (fun r n => n = [] ∧ ∃ u, r = .int (min (numLaw (codes x)) 65530 : Nat) u) := by
  intro dp un gd base fr g s Q E G O hd hu hret
  obtain ⟨H₀, GS₀, DR₀, TK₀, OS₀⟩ := s
  dsimp only at O hret ⊢
  have ⟨B, X, T⟩ := G
  (refine wpAny_call ?_; k_dflt (refine' enter_plain ?k1 ?k3 ?k5 ?k6 ?k7 ?k8 ?k9 ?kB ?_ ?c2 ?c3 ?c4 ?c5; (case k1 => assumption); (case k3 => assumption); (case k5 => assumption); (case k6 => k_is); (case k7 => k_is); (case k8 => exact room_of (by assumption)); (case k9 => exact BindsTo.of_eq rfl); (case kB => exact locs rfl); (case c2 => exact rfl); (case c3 => exact rfl); (case c4 => exact rfl); (case c5 => decide); intro _ _ _ _ _; (try dsimp only); (try k_fold)))
  (with_reducible rename Fr _ _ _ _ => F'); (with_reducible rename News _ _ _ _ => N')
  k_steps
  refine Stop.mk ?_
  (with_reducible rename Fr _ _ _ _ => F'); (with_reducible rename News _ _ _ _ => N')
  refine For_invVF F' rfl rfl ?_
  k_steps
  refine Stop.mk ?_
  refine KStt.kst_text (σ := Int × Tok) (fun _ => []) (fun c => [(Str.ofString "found", .int c.1 c.2)]) (fun _ => True) [] (fun pre c => c.1 = numLaw (pre.map Int.toNat)) (0, _) rfl F' N' trivial (List.forall_mem_cons.mpr ⟨rfl, fun _ h => nomatch h⟩) rfl ?_ ?_
  · rintro ⟨c, tc⟩ pre post n t₁ U h tk own hsp hown - hP F1 N1
    dsimp only at hP
    k_steps
    have hn : isFig n = true := hf n (by
      have : (n : Int) ∈ KStt.codes x := by rw [hsp]; simp
      unfold KStt.codes at this
      obtain ⟨m, hm, e⟩ := List.mem_map.mp this
      have : m = n := by exact_mod_cast e
      exact this ▸ hm)
    refine Stop.mk ?_
    refine SC.index (fig_occ hn) ?_
    k_steps
    (with_reducible rename Fr _ _ _ _ => F2); (with_reducible rename News _ _ _ _ => N2)
    refine kst_end (c * 10 + ((n - 48 : Nat) : Int), _) F2 N2 (fun _ h => nomatch h) (fun p hp => List.mem_append.mpr (.inr hp)) rfl trivial (List.forall_mem_cons.mpr ⟨rfl, fun _ h => nomatch h⟩) (same_putF (.inr (by simp)) (same_kstF rfl)) ?_
    dsimp only
    rw [hP]
    unfold numLaw
    rw [List.map_append, List.foldl_append]
    simp only [List.map_cons, List.map_nil, List.foldl_cons, List.foldl_nil, Int.toNat_natCast]
    omega
  · rintro ⟨c, tc⟩ U h tk - hP F1 N1
    dsimp only at hP
    k_steps
    (with_reducible rename Fr _ _ _ _ => F2); (with_reducible rename News _ _ _ _ => N2)
    refine hret (.int (if (65530 : Int) < c then 65530 else c) _) _ _ _ (over_of F2 N2) ⟨rfl, _, congrArg (fun z => Value.int z _) ?_⟩
    rw [hP, kcodes_nat]
    split <;> omega

end

section
local macro_rules
  | `(tactic| walk_at $s) => let k := s.getString; if k == "eval ListComp" then `(tactic| refine Stop.out ?_) else Lean.Macro.throwUnsupported
open PyProof.Rows.LCg
theorem without_noughts_says (w : World) (mean : ExcName → Option Value) (mg mb : Str → Option Value) (x : Str) (t : Tok) (l : Addr) (ws : List Value) (n : Nat) (tl : List (Addr × Obj)) (sp : List (Nat × Nat))
    (hD : DatAll tl ws (sp.map spotD)) (hok : ∀ p ∈ sp, Spot (codes x) p) (hsl : sp.length ≤ 10000) (hx : x.length ≤ 10000) :
    Says w mean mg mb 76 3 ((l, listOf ws.toArray n) :: tl) [.str x t, .ref l] (fun r n' => (∀ p ∈ (l, listOf ws.toArray n) :: tl, p ∈ n') ∧ DatIn n' r (Dat.list ((sp.filter (fun p => numAt (codes x) p != 0)).map spotD))) := by
  intro dp un gd base fr g s Q E G O hd hu hret
  obtain ⟨H₀, GS₀, DR₀, TK₀, OS₀⟩ := s
  dsimp only at O hret ⊢
  have ⟨B, X, T⟩ := G
  have hxl := codes_len x
  have hlen : ws.length = sp.length := by rw [hD.length, List.length_map]
  (refine wpAny_call ?_; k_dflt (refine' enter_cells ?k1 ?k3 ?k5 ?k6 ?k7 ?k8 ?k9 ?kB ?kD ?_ ?c2 ?c3 ?c4; (case k1 => assumption); (case k3 => assumption); (case k5 => assumption); (case k6 => k_is); (case k7 => k_is); (case k8 => exact room_of (by assumption)); (case k9 => exact BindsTo.of_eq rfl); (case kB => exact rfl); (case kD => decide +kernel); (case c2 => exact rfl); (case c3 => exact rfl); (case c4 => exact rfl); intro _ _ _ _ _ N' Y' _; k_cells Y'; (try simp only [List.cons_append, List.nil_append] at N'); (try dsimp only); (try k_fold)))
  (with_reducible rename Fr _ _ _ _ => F'); (with_reducible rename News _ _ _ _ => N')
  k_steps
  (with_reducible rename _ = Data.cell _ => hcell)
  have hcell' : _ = Data.cell (some (.str x t)) := hcell
  clear hcell
  refine Stop.mk ?_
  (with_reducible rename Fr _ _ _ _ => F'); (with_reducible rename News _ _ _ _ => N')
  refine comp_pairT F' (by with_unfolding_all rfl) (by decide) (by rfl) (by decide) (by rfl) (by rfl) (by decide) ?_
  k_steps
  rename_i L₁ h₁ tk₁ l₁ o₁
  refine ⟨l, ws.toArray, n, _, (fun i ys nx => ∃ ex, nx = (L₁ + 1, o₁) :: (l, listOf ws.toArray n) :: ex ∧ (∀ p ∈ tl, p ∈ ex) ∧ DatAll ex ys (((sp.take i).filter (fun p => numAt (codes x) p != 0)).map spotD)), rfl, rfl, F', N', ?_, ?_, ?_, ?_, ?_⟩
  · rw [List.size_toArray]; exact Nat.le_trans (Nat.le_trans (Nat.le_of_eq hlen) hsl) (by decide : 10000 ≤ sizeLine)
  · rintro i ys nx ⟨ex, rfl, -, -⟩
    exact List.mem_cons_of_mem _ List.mem_cons_self
  · exact ⟨tl, rfl, fun _ h => h, DatAll.nil⟩
  · rintro i ys nx v hi hv ⟨ex, rfl, hsub, hJ⟩
    obtain ⟨p, hp, a₁, tb, te, nn, rfl, hm1⟩ := spot_at hD (i := i) (v := v) (by simpa using hv)
    have hS := hok p (List.mem_of_getElem? hp)
    refine ⟨_, _, _, _, rfl, List.mem_cons_of_mem _ (List.mem_cons_of_mem _ (hsub _ hm1)), ?_⟩
    intro I oI C oC D m₂ h tk E' hC hx1 hx2 F3 N3 off ne
    k_steps
    (with_reducible rename (Txt.slice _ _ _).length ≤ _ => hsl2); (with_reducible rename Fr _ _ _ _ => F4); (with_reducible rename News _ _ _ _ => N4)
    refine Stop.mk ?_
    refine Says.useD (number_told_says w mean mg mb _ _ (spot_figs hS) (by omega)) G F4 N4 rfl rfl (by omega) (by omega) ?_
    rintro r own₅ h₅ tk₅ F5 N5 - - - ⟨rfl, u₅, rfl⟩
    rw [spot_num hS]
    (try clear F4); (try clear N4); (try clear F3); (try clear N3)
    dsimp only [List.nil_append] at N5
    k_steps
    · (with_reducible rename Fr _ _ _ _ => F6); (with_reducible rename News _ _ _ _ => N6); (with_reducible rename _ ∧ _ ∧ _ ∧ _ ∧ _ ∧ AllLt _ _ => hl6); (with_reducible rename _ ≠ (0 : Int) => hne)
      rename_i D₆ h₆
      refine CompEnd.intro F6 N6 ((L₁ + 1, o₁) :: (l, listOf ws.toArray n) :: (D₆, ({ cls := .type "tuple", data := .seq #[.int p.1 tb, .int p.2 te] } : Obj)) :: ex) (fun q hq => ?_) ⟨off.1, off.2.1, ⟨Nat.ne_of_gt hl6.1, Nat.ne_of_gt hl6.2.1, Nat.ne_of_gt hl6.2.2.1⟩, off.2.2⟩ trivial ⟨_, rfl, fun q hq => List.mem_cons_of_mem _ (hsub q hq), ?_⟩
      · simp only [List.mem_cons] at hq ⊢
        rcases hq with h | h | h | h | h | h | h <;> simp only [h, true_or, or_true]
      · have hf : ([p].filter fun p => numAt (codes x) p != 0) = [(p.1, p.2)] := by
          have : numAt (codes x) p ≠ 0 := fun e => hne (by rw [e]; rfl)
          simp [this]
        rw [take_more hp, List.filter_append, hf]
        exact spot_snoc hJ D₆ p.1 p.2 tb te 0
    · (with_reducible rename _ = (0 : Int) => hne)
      refine CompEnd.intro F5 N5 _ (fun p hp => hp) off trivial ⟨ex, rfl, hsub, ?_⟩
      have hf : ([p].filter fun p => numAt (codes x) p != 0) = [] := by
        have : numAt (codes x) p = 0 := by exact_mod_cast hne
        simp [this]
      rw [take_more hp, List.filter_append, hf, List.append_nil]
      exact hJ
  · rintro ys nx D h tk ⟨ex, rfl, hsub, hJ⟩ F3 N3 off
    rw [List.take_of_length_le (by rw [List.size_toArray]; omega)] at hJ
    refine hret (.ref D) _ _ _ (over_of F3 N3) ⟨?_, DatIn.list List.mem_cons_self (DatAll.mono (fun p hp => List.mem_cons_of_mem _ (List.mem_cons_of_mem _ (List.mem_cons_of_mem _ hp))) hJ)⟩
    intro p hp
    rcases List.mem_cons.mp hp with rfl | hp
    · exact List.mem_cons_of_mem _ (List.mem_cons_of_mem _ List.mem_cons_self)
    · exact List.mem_cons_of_mem _ (List.mem_cons_of_mem _ (List.mem_cons_of_mem _ (hsub p hp)))

end

section
theorem inner_codes : (Str.ofString "abcdefghijklmnopqrstuvwxyzABCDEFGHIJKLMNOPQRSTUVWXYZ0123456789.$%!").cps.toList = List.range' 97 26 ++ List.range' 65 26 ++ List.range' 48 10 ++ [46, 36, 37, 33] := by decide +kernel
theorem inner_all : ((List.range 128).all fun c => (List.range' 97 26 ++ List.range' 65 26 ++ List.range' 48 10 ++ [46, 36, 37, 33]).contains c == isWord c) = true := by decide +kernel
theorem inner_low : ∀ x ∈ List.range' 97 26 ++ List.range' 65 26 ++ List.range' 48 10 ++ [46, 36, 37, 33], x < 128 := by decide +kernel
theorem inner_in (c : Nat) : (Builtin.Str.occurrences (Str.ofString "abcdefghijklmnopqrstuvwxyzABCDEFGHIJKLMNOPQRSTUVWXYZ0123456789.$%!") ⟨#[c]⟩ 0 (Str.ofString "abcdefghijklmnopqrstuvwxyzABCDEFGHIJKLMNOPQRSTUVWXYZ0123456789.$%!").length 1).isEmpty = !(isWord c) := by
  rw [in_one, inner_codes]
  congr 1
  by_cases h : c < 128
  · exact eq_of_beq (List.all_eq_true.mp inner_all c (List.mem_range.mpr h))
  · cases hw : isWord c with
    | true => exact absurd (word_ascii hw) h
    | false =>
      rw [Bool.eq_false_iff]
      exact fun hc => h (inner_low c (List.contains_iff_mem.mp hc))
theorem law_inner_says (w : World) (mean : ExcName → Option Value) (mg mb : Str → Option Value) {y : Str} {c : Nat} (t : Tok) (hy : y = ⟨#[c]⟩) :
    Says w mean mg mb 110 1 [] [.str y t] (fun r n => n = [] ∧ r = .bool (isWord c)) := by
  subst hy
  intro dp un gd base fr g s Q E G O hd hu hret
  obtain ⟨H₀, GS₀, DR₀, TK₀, OS₀⟩ := s
  dsimp only at O hret ⊢
  have ⟨B, X, T⟩ := G
  (refine wpAny_call ?_; k_dflt (refine' enter_plain ?k1 ?k3 ?k5 ?k6 ?k7 ?k8 ?k9 ?kB ?_ ?c2 ?c3 ?c4 ?c5; (case k1 => assumption); (case k3 => assumption); (case k5 => assumption); (case k6 => k_is); (case k7 => k_is); (case k8 => exact room_of (by assumption)); (case k9 => exact BindsTo.of_eq rfl); (case kB => exact locs rfl); (case c2 => exact rfl); (case c3 => exact rfl); (case c4 => exact rfl); (case c5 => decide); intro _ _ _ _ _; (try dsimp only); (try k_fold)))
  (rename Fr _ _ _ _ => F'); (rename News _ _ _ _ => N')
  k_steps
  all_goals (
    refine hret (.bool _) _ _ _ (over_of F' N') ⟨rfl, ?_⟩
    rw [inner_in, Bool.not_not])
theorem law_leading_says (w : World) (mean : ExcName → Option Value) (mg mb : Str → Option Value) :
    Says w mean mg mb 103 1 [] [] (fun r n => ∃ a vs k, r = .ref a ∧ (a, W.listOf vs.toArray k) ∈ n ∧ StrsAre vs leading) := by
  intro dp un gd base fr g s Q E G O hd hu hret
  obtain ⟨H₀, GS₀, DR₀, TK₀, OS₀⟩ := s
  dsimp only at O hret ⊢
  have ⟨B, X, T⟩ := G
  (refine wpAny_call ?_; k_dflt (refine' enter_plain ?k1 ?k3 ?k5 ?k6 ?k7 ?k8 ?k9 ?kB ?_ ?c2 ?c3 ?c4 ?c5; (case k1 => assumption); (case k3 => assumption); (case k5 => assumption); (case k6 => k_is); (case k7 => k_is); (case k8 => exact room_of (by assumption)); (case k9 => exact BindsTo.of_eq rfl); (case kB => exact locs rfl); (case c2 => exact rfl); (case c3 => exact rfl); (case c4 => exact rfl); (case c5 => decide); intro _ _ _ _ _; (try dsimp only); (try k_fold)))
  (rename Fr _ _ _ _ => F'); (rename News _ _ _ _ => N')
  k_steps
  (rename Fr _ _ _ _ => F'); (rename News _ _ _ _ => N')
  exact hret _ _ _ _ (over_of F' N') ⟨_, _, _, rfl, List.mem_cons_self, strs_lead _ _ _ _ _ _ _⟩

end

section
local macro_rules
  | `(tactic| walk_at $s) => let k := s.getString; if k == "execs cons" then `(tactic| with_reducible refine execs_one ?_) else Lean.Macro.throwUnsupported

section
local macro_rules
  | `(tactic| walk_at $s) => let k := s.getString; if k == "call builtin:len" then `(tactic| with_reducible refine stop_len ?_) else if k == "execs cons" then `(tactic| with_reducible refine stop_if ?_) else if k == "subscriptTail Name BinOp ref int" then `(tactic| refine Stop.out ?_) else Lean.Macro.throwUnsupported
theorem same_kstG {st2 : List Str} {u r m₀ : Str → Option Value} {qs ps : List (Str × Value)} {stored : List Str} (h2 : ∀ y ∈ st2, stored.contains y = true) (hq : ∀ q ∈ qs.map (·.1), stored.contains q = true ∨ q ∈ ps.map (·.1))
    (h : ∀ z, (∀ p ∈ ps, z ≠ p.1) → stored.contains z = false → r z = m₀ z) :
    ∀ z, (∀ p ∈ ps, z ≠ p.1) → stored.contains z = false → kstB (fun z => if st2.contains z then u z else r z) qs z = m₀ z := by
  intro z h3 h4
  rw [kstB_off]
  · show (if st2.contains z = true then u z else r z) = m₀ z
    rw [if_neg]
    · exact h z h3 h4
    · intro hc
      have := h2 z (List.contains_iff_mem.mp hc)
      rw [h4] at this; cases this
  · rintro q hq' rfl
    rcases hq q.1 (List.mem_map_of_mem hq') with h5 | h5
    · rw [h4] at h5; cases h5
    · obtain ⟨p, hp, e⟩ := List.mem_map.mp h5
      exact h3 p hp e.symm
/-- what _law_words knows between its turns -/
structure WS where
  a : Nat
  ta : Tok
  k : Nat
  n : Nat
  ws : List Value
  tl : List (Addr × Obj)
  done : List (Nat × Nat)

theorem ne_names {z : Str} {l l' : List (Str × Value)} (e : l'.map (·.1) = l.map (·.1)) (h : ∀ p ∈ l, z ≠ p.1) : ∀ p ∈ l', z ≠ p.1 := by
  intro p hp q
  have : p.1 ∈ l.map (·.1) := e ▸ List.mem_map_of_mem hp
  obtain ⟨r, hr, e'⟩ := List.mem_map.mp this
  exact h r hr (q.trans e'.symm)
/-- behind the three ways of a turn: one piece more -/
noncomputable def WJ (g : Heap) (L : Addr) (x : Str) (t ta : Tok) (l : Addr) (a n : Nat) (ws : List Value) (tl : List (Addr × Obj)) (M₀ : Str → Option Value) (GS : Array GenState) (DR : Drawn) (OS : OsState) (s' : Shared) : Prop :=
  ∃ (h' : Heap) (tk' : Nat) (m' : Str → Option Value) (D : Addr) (ts te : Tok) (nn : Nat), s' = ⟨h', GS, DR, tk', OS⟩ ∧ Fr g L h' m' ∧ News g L h' ((l, listOf (ws ++ [Value.ref D]).toArray (n + 1)) :: (D, ({ cls := .type "tuple", data := .seq #[.str (kindStr ((codes x).getD a 0)) ts, .int a ta, .int (lawEnd (codes x) a) te] nn } : Obj)) :: tl) ∧ l < D ∧
    m' (Str.ofString "text") = some (.str x t) ∧ m' (Str.ofString "found") = some (.ref l) ∧ m' (Str.ofString "at") = some (.int a ta) ∧
    (∀ z, (∀ p ∈ [(Str.ofString "text", Value.str x t), (Str.ofString "found", Value.ref l), (Str.ofString "at", Value.int a ta)], z ≠ p.1) → [Str.ofString "end"].contains z = false → m' z = M₀ z)
theorem law_words_says (w : World) (mean : ExcName → Option Value) (mg mb : Str → Option Value) (x : Str) (t : Tok) (hx : x.length ≤ 1000) :
    Says w mean mg mb 117 2 [] [.str x t] (fun r n => DatIn n r (Dat.list ((lawWords (codes x) (x.length + 1) 0).map (wordD (codes x))))) := by
  intro dp un gd base fr g s Q E G O hd hu hret
  obtain ⟨H₀, GS₀, DR₀, TK₀, OS₀⟩ := s
  dsimp only at O hret ⊢
  have ⟨B, X, T⟩ := G
  have hxl := codes_len x
  (refine wpAny_call ?_; k_dflt (refine' enter_plain ?k1 ?k3 ?k5 ?k6 ?k7 ?k8 ?k9 ?kB ?_ ?c2 ?c3 ?c4 ?c5; (case k1 => assumption); (case k3 => assumption); (case k5 => assumption); (case k6 => k_is); (case k7 => k_is); (case k8 => exact room_of (by assumption)); (case k9 => exact BindsTo.of_eq rfl); (case kB => exact locs rfl); (case c2 => exact rfl); (case c3 => exact rfl); (case c4 => exact rfl); (case c5 => decide); intro _ _ _ _ _; (try dsimp only); (try k_fold)))
  (with_reducible rename Fr _ _ _ _ => F'); (with_reducible rename News _ _ _ _ => N')
  rename_i L _ _
  k_steps
  rename_i l _ _ D _ hlD _ _ _ F' N'
  refine Stop.mk ?_
  obtain ⟨R, hR⟩ : ∃ y, lawWords (codes x) (x.length + 1) 0 = y := ⟨_, rfl⟩
  rw [hR] at hret
  refine ksw_whileP (σ := WS) (fun c => (l, listOf c.ws.toArray c.n) :: c.tl) (fun c => [(Str.ofString "text", .str x t), (Str.ofString "found", .ref l), (Str.ofString "at", .int c.a c.ta)])
    (fun c => DatAll c.tl c.ws (c.done.map (wordD (codes x))) ∧ ∀ p ∈ c.tl, p.1 ≠ l) [Str.ofString "end"]
    (fun c => c.a ≤ x.length ∧ c.done.length ≤ c.a ∧ x.length < c.k + c.a ∧ R = c.done ++ lawWords (codes x) c.k c.a) (fun c => x.length - c.a)
    ⟨0, _, x.length + 1, _, [], [], []⟩ F' (news_sub N' (fun p hp => List.mem_cons_of_mem _ hp)) ⟨DatAll.nil, fun _ h => nomatch h⟩ (by ((repeat (refine List.forall_mem_cons.mpr ⟨rfl, ?_⟩)); exact fun _ h => nomatch h)) ⟨Nat.zero_le _, Nat.zero_le _, by dsimp only; omega, hR.symm⟩ ?_
  clear F' N'
  rintro M₀ ⟨a, ta, k, n, ws, tl, done⟩ U h tk Post ⟨hDt, hoff⟩ hP hPost F1 N1
  dsimp only at hDt hoff hP hPost F1 N1 ⊢
  have hws : ws.length ≤ 1000 := by rw [hDt.length, List.length_map]; omega
  k_steps
  · (with_reducible rename (a : Int) < _ => hlt); (with_reducible rename Fr _ _ _ _ => F2); (with_reducible rename News _ _ _ _ => N2)
    have hlt' : a < x.length := by exact_mod_cast hlt
    refine Stop.mk ?_
    refine execs_join (WJ g L x t ta l a n ws tl M₀ GS₀ DR₀ OS₀) ?_ ?_
    · intro J hJ
      clear hPost hP hret hDt
      (try clear F1); (try clear N1)
      k_steps
      · (with_reducible rename (Txt.item _ _ == _) = _ => hc1); (with_reducible rename Fr _ _ _ _ => F3); (with_reducible rename News _ _ _ _ => N3)
        rw [item_one hlt', qu_str, one_eq] at hc1
        have hc1' : (codes x).getD a 0 = 34 := by simpa using hc1
        refine Stop.mk ?_
        refine ksw_whileS (σ := Nat × Tok) (fun _ => (l, listOf ws.toArray n) :: tl) (fun c => [(Str.ofString "text", .str x t), (Str.ofString "found", .ref l), (Str.ofString "at", .int a ta), (Str.ofString "end", .int c.1 c.2)]) (fun _ => True) []
          (fun c => c.1 ≤ x.length ∧ runEnd (· != 34) (codes x) c.1 = runEnd (· != 34) (codes x) (a + 1)) (fun c => x.length - c.1) (fun c => c.1 < x.length ∧ ((codes x).getD c.1 0 != 34) = true) (fun c => runEnd (· != 34) (codes x) c.1 = c.1) (a + 1, _) F3 N3 trivial (by ((repeat (refine List.forall_mem_cons.mpr ⟨rfl, ?_⟩)); exact fun _ h => nomatch h)) ⟨hlt', rfl⟩ ?_ ?_ ?_
        all_goals (try clear F2); (try clear N2); (try clear F3); (try clear N3)
        · rintro ⟨e, te⟩ U2 h₂ tk₂ Yes No - hPe hYes hNo F3 N3
          dsimp only at hPe hYes hNo F3 N3 ⊢
          k_steps
          · (with_reducible rename (e : Int) < _ => hlt2); (with_reducible rename (Txt.item _ _ != _) = _ => hc2); (with_reducible rename Fr _ _ _ _ => F4); (with_reducible rename News _ _ _ _ => N4)
            have hlt2' : e < x.length := by exact_mod_cast hlt2
            rw [item_one hlt2', qu_str, bne, one_eq] at hc2
            exact hYes _ _ F4 N4 ⟨hlt2', hc2⟩
          · (with_reducible rename (e : Int) < _ => hlt2); (with_reducible rename (Txt.item _ _ != _) = _ => hc2); (with_reducible rename Fr _ _ _ _ => F4); (with_reducible rename News _ _ _ _ => N4)
            have hlt2' : e < x.length := by exact_mod_cast hlt2
            rw [item_one hlt2', qu_str, bne, one_eq] at hc2
            exact hNo _ _ F4 N4 (runEnd_stop hc2)
          · (with_reducible rename ¬ (e : Int) < _ => hlt2); (with_reducible rename Fr _ _ _ _ => F4); (with_reducible rename News _ _ _ _ => N4)
            exact hNo _ _ F4 N4 (runEnd_end (by omega))
        · rintro ⟨e, te⟩ U2 h₂ tk₂ Post2 - hPe hYe hPost2 F3 N3
          dsimp only at hPe hYe hPost2 F3 N3 ⊢
          k_steps
          (with_reducible rename Fr _ _ _ _ => F4); (with_reducible rename News _ _ _ _ => N4)
          refine hPost2 .next _ (ksw_end (e + 1, _) F4 N4 (fun _ h => h) trivial (by ((repeat (refine List.forall_mem_cons.mpr ⟨rfl, ?_⟩)); exact fun _ h => nomatch h)) (by (repeat (first | exact same_kst rfl | (refine' same_put ?smk ?_; (case smk => first | (left; decide) | (left; simp; done) | (right; simp; done))) | (refine' same_kstG ?sga ?sgb ?_; (case sga => exact fun _ h => nomatch h); (case sgb => (simp; done)))))) ⟨hYe.1, ?_⟩ (by have := hYe.1; dsimp only; omega))
          rw [← hPe.2]
          exact (runEnd_go (by have := hYe.1; omega) hYe.2).symm
        · rintro ⟨e, te⟩ U2 h₂ tk₂ - hPe hXe F3 N3
          dsimp only at hPe hXe F3 N3 ⊢
          have hrun : e = runEnd (· != 34) (codes x) (a + 1) := by rw [← hPe.2]; exact hXe.symm
          have hend : lawEnd (codes x) a = min (e + 1) x.length := by
            rw [lawEnd, if_pos hc1', quoteEnd, ← hrun, hxl]
          have hmin : (if (x.length : Int) < (e : Int) + 1 then (x.length : Int) else (e : Int) + 1) = ((lawEnd (codes x) a : Nat) : Int) := by
            rw [hend]; split <;> omega
          k_steps
          (with_reducible rename Fr _ _ _ _ => F4); (with_reducible rename News _ _ _ _ => N4); (with_reducible rename _ ∧ AllLt _ _ => hl1)
          simp only [hmin] at N4
          refine Stop.mk ?_
          refine append_K F4 N4 (Upd.tail (Nat.ne_of_gt hl1.1) (Upd.head hoff)) ?_ (by rw [List.size_toArray]; exact Nat.le_trans hws (by decide))
          intro h₃ F5 N5
          rw [List.push_toArray] at N5
          replace N5 := news_sub N5 swap_sub
          have hl2 := hl1.1
          (try clear F4); (try clear N4); (try clear F3); (try clear N3)
          have hk : Str.ofString "quoted" = kindStr ((codes x).getD a 0) := by rw [kindStr, if_pos hc1']
          rw [hk] at N5
          k_steps
          (with_reducible rename Fr _ _ _ _ => F4); (with_reducible rename News _ _ _ _ => N4)
          exact hJ _ ⟨_, _, _, _, _, _, _, rfl, F4, N4, hl2, rfl, rfl, rfl, by (repeat (first | exact same_kst rfl | (refine' same_put ?smk ?_; (case smk => first | (left; decide) | (left; simp; done) | (right; simp; done))) | (refine' same_kstG ?sga ?sgb ?_; (case sga => exact fun _ h => nomatch h); (case sgb => (simp; done)))))⟩
      · (with_reducible rename (Txt.item _ _ == Str.ofString "\"") = _ => hc1); (with_reducible rename Fr _ _ _ _ => F3); (with_reducible rename News _ _ _ _ => N3)
        rw [item_one hlt', qu_str, one_eq] at hc1
        have hc1' : (codes x).getD a 0 ≠ 34 := by simpa using hc1
        refine Stop.mk ?_
        refine Says.useD (law_inner_says w mean mg mb _ (item_one hlt')) G F3 N3 rfl rfl (by omega) (by omega) ?_
        rintro r own h₃ tk₃ F4 N4 - - - ⟨rfl, rfl⟩
        (try clear F2); (try clear N2); (try clear F3); (try clear N3)
        dsimp only [List.nil_append] at N4
        k_steps
        · (with_reducible rename isWord _ = _ => hw); (with_reducible rename Fr _ _ _ _ => F3); (with_reducible rename News _ _ _ _ => N3)
          refine Stop.mk ?_
          refine ksw_whileS (σ := Nat × Tok) (fun _ => (l, listOf ws.toArray n) :: tl) (fun c => [(Str.ofString "text", .str x t), (Str.ofString "found", .ref l), (Str.ofString "at", .int a ta), (Str.ofString "end", .int c.1 c.2)]) (fun _ => True) []
            (fun c => c.1 ≤ x.length ∧ runEnd isWord (codes x) c.1 = runEnd isWord (codes x) (a + 1)) (fun c => x.length - c.1) (fun c => c.1 < x.length ∧ isWord ((codes x).getD c.1 0) = true) (fun c => runEnd isWord (codes x) c.1 = c.1) (a + 1, _) F3 N3 trivial (by ((repeat (refine List.forall_mem_cons.mpr ⟨rfl, ?_⟩)); exact fun _ h => nomatch h)) ⟨hlt', rfl⟩ ?_ ?_ ?_
          all_goals (try clear F4); (try clear N4); (try clear F3); (try clear N3)
          · rintro ⟨e, te⟩ U2 h₂ tk₂ Yes No - hPe hYes hNo F3 N3
            dsimp only at hPe hYes hNo F3 N3 ⊢
            k_steps
            · (with_reducible rename (e : Int) < _ => hlt2); (with_reducible rename Fr _ _ _ _ => F4); (with_reducible rename News _ _ _ _ => N4)
              have hlt2' : e < x.length := by exact_mod_cast hlt2
              refine Stop.mk ?_
              refine Says.useD (law_inner_says w mean mg mb _ (item_one hlt2')) G F4 N4 rfl rfl (by omega) (by omega) ?_
              rintro r own h₅ tk₅ F5 N5 - - - ⟨rfl, rfl⟩
              (try clear F4); (try clear N4); (try clear F3); (try clear N3)
              dsimp only [List.nil_append] at N5
              k_steps
              · (with_reducible rename isWord ((codes x).getD e 0) = _ => hw2); (with_reducible rename Fr _ _ _ _ => F4); (with_reducible rename News _ _ _ _ => N4)
                exact hYes _ _ F4 N4 ⟨hlt2', hw2⟩
              · (with_reducible rename isWord ((codes x).getD e 0) = _ => hw2); (with_reducible rename Fr _ _ _ _ => F4); (with_reducible rename News _ _ _ _ => N4)
                exact hNo _ _ F4 N4 (runEnd_stop hw2)
            · (with_reducible rename ¬ (e : Int) < _ => hlt2); (with_reducible rename Fr _ _ _ _ => F4); (with_reducible rename News _ _ _ _ => N4)
              exact hNo _ _ F4 N4 (runEnd_end (by omega))
          · rintro ⟨e, te⟩ U2 h₂ tk₂ Post2 - hPe hYe hPost2 F3 N3
            dsimp only at hPe hYe hPost2 F3 N3 ⊢
            k_steps
            (with_reducible rename Fr _ _ _ _ => F4); (with_reducible rename News _ _ _ _ => N4)
            refine hPost2 .next _ (ksw_end (e + 1, _) F4 N4 (fun _ h => h) trivial (by ((repeat (refine List.forall_mem_cons.mpr ⟨rfl, ?_⟩)); exact fun _ h => nomatch h)) (by (repeat (first | exact same_kst rfl | (refine' same_put ?smk ?_; (case smk => first | (left; decide) | (left; simp; done) | (right; simp; done))) | (refine' same_kstG ?sga ?sgb ?_; (case sga => exact fun _ h => nomatch h); (case sgb => (simp; done)))))) ⟨hYe.1, ?_⟩ (by have := hYe.1; dsimp only; omega))
            rw [← hPe.2]
            exact (runEnd_go (by have := hYe.1; omega) hYe.2).symm
          · rintro ⟨e, te⟩ U2 h₂ tk₂ - hPe hXe F3 N3
            dsimp only at hPe hXe F3 N3 ⊢
            have hend : lawEnd (codes x) a = e := by rw [lawEnd, if_neg hc1', if_pos hw, ← hPe.2]; exact hXe
            obtain rfl := hend
            k_steps
            (with_reducible rename Fr _ _ _ _ => F4); (with_reducible rename News _ _ _ _ => N4); (with_reducible rename _ ∧ AllLt _ _ => hl1)
            refine Stop.mk ?_
            refine append_K F4 N4 (Upd.tail (Nat.ne_of_gt hl1.1) (Upd.head hoff)) ?_ (by rw [List.size_toArray]; exact Nat.le_trans hws (by decide))
            intro h₃ F5 N5
            rw [List.push_toArray] at N5
            replace N5 := news_sub N5 swap_sub
            have hl2 := hl1.1
            (try clear F4); (try clear N4); (try clear F3); (try clear N3)
            have hk : Str.ofString "word" = kindStr ((codes x).getD a 0) := by rw [kindStr, if_neg hc1', if_pos hw]
            rw [hk] at N5
            k_steps
            (with_reducible rename Fr _ _ _ _ => F4); (with_reducible rename News _ _ _ _ => N4)
            exact hJ _ ⟨_, _, _, _, _, _, _, rfl, F4, N4, hl2, rfl, rfl, rfl, by (repeat (first | exact same_kst rfl | (refine' same_put ?smk ?_; (case smk => first | (left; decide) | (left; simp; done) | (right; simp; done))) | (refine' same_kstG ?sga ?sgb ?_; (case sga => exact fun _ h => nomatch h); (case sgb => (simp; done)))))⟩
        · (with_reducible rename isWord _ = _ => hw)
          have hend : lawEnd (codes x) a = a + 1 := by rw [lawEnd, if_neg hc1', if_neg (by rw [hw]; exact Bool.false_ne_true)]
          (with_reducible rename Fr _ _ _ _ => F3); (with_reducible rename News _ _ _ _ => N3); (with_reducible rename _ ∧ AllLt _ _ => hl1)
          simp only [show ((a : Int) + 1) = ((lawEnd (codes x) a : Nat) : Int) by rw [hend]; omega] at N3
          refine Stop.mk ?_
          refine append_K F3 N3 (Upd.tail (Nat.ne_of_gt hl1.1) (Upd.head hoff)) ?_ (by rw [List.size_toArray]; exact Nat.le_trans hws (by decide))
          intro h₃ F5 N5
          rw [List.push_toArray] at N5
          replace N5 := news_sub N5 swap_sub
          have hl2 := hl1.1
          (try clear F4); (try clear N4); (try clear F3); (try clear N3)
          have hk : Txt.item x (a : Int) = kindStr ((codes x).getD a 0) := by rw [kindStr, if_neg hc1', if_neg (by rw [hw]; exact Bool.false_ne_true), item_one hlt']
          rw [hk] at N5
          k_steps
          (with_reducible rename Fr _ _ _ _ => F4); (with_reducible rename News _ _ _ _ => N4)
          exact hJ _ ⟨_, _, _, _, _, _, _, rfl, F4, N4, hl2, rfl, rfl, rfl, by (repeat (first | exact same_kst rfl | (refine' same_put ?smk ?_; (case smk => first | (left; decide) | (left; simp; done) | (right; simp; done))) | (refine' same_kstG ?sga ?sgb ?_; (case sga => exact fun _ h => nomatch h); (case sgb => (simp; done)))))⟩
    · rintro s' ⟨h₃, tk₃, m₃, D, ts, te, nn, rfl, F4, N4, hl2, hm1, hm2, hm3, hsame⟩
      (try clear F1); (try clear N1); (try clear F2); (try clear N2)
      replace F4 := kst_of F4 [(Str.ofString "text", .str x t), (Str.ofString "found", .ref l), (Str.ofString "at", .int a ta)]
        (List.forall_mem_cons.mpr ⟨hm1, List.forall_mem_cons.mpr ⟨hm2, List.forall_mem_cons.mpr ⟨hm3, fun _ h => nomatch h⟩⟩⟩)
      have hD2 := word_snoc hDt D a (lawEnd (codes x) a) (kindStr ((codes x).getD a 0)) ts ta te nn rfl
      have hoff2 : ∀ (o : Obj), ∀ p ∈ (D, o) :: tl, p.1 ≠ l := fun o => List.forall_mem_cons.mpr ⟨Nat.ne_of_gt hl2, hoff⟩
      k_steps
      refine Stop.mk ?_
      refine KM.len_K (n := ws.length + 1) N4 List.mem_cons_self (by rw [List.size_toArray, List.length_append]; rfl) (by omega) ?_
      k_steps
      refine Stop.mk ?_
      have hl9 := News.isList N4 List.mem_cons_self
      refine subscriptTail_builtin hl9.typeIs slot_list_getitem.lookup (getItem_listL (x := .ref _) hl9 (by omega) (by omega) (by rw [show ((ws.length + 1 : Nat) : Int) - 1 = ((ws.length : Nat) : Int) by omega, Int.toNat_natCast, List.getElem?_append_right (Nat.le_refl _), Nat.sub_self]; rfl) ?_)
      k_steps
      (with_reducible rename Fr _ _ _ _ => F2); (with_reducible rename News _ _ _ _ => N2)
      have hgt := lawEnd_gt (cs := codes x) (i := a) (by omega)
      obtain ⟨k, rfl⟩ : ∃ k', k = k' + 1 := ⟨k - 1, by omega⟩
      refine hPost .next _ (ksw_end (WS.mk (lawEnd (codes x) a) _ k (n + 1) (ws ++ [.ref _]) (_ :: tl) (done ++ [(a, lawEnd (codes x) a)])) F2 N2 (fun p hp => hp) ⟨hD2, hoff2 _⟩ (by ((repeat (refine List.forall_mem_cons.mpr ⟨rfl, ?_⟩)); exact fun _ h => nomatch h)) (same_put (.inr (by simp)) (fun z h1 h2 => (kstB_off (ne_names (by exact rfl) h1)).trans (hsame z (ne_names (by exact rfl) h1) h2))) ⟨by dsimp only; omega, by dsimp only; rw [List.length_append, List.length_singleton]; omega, by dsimp only; omega, ?_⟩ (Nat.sub_lt_sub_left (show a < x.length by omega) hgt.1))
      dsimp only
      rw [hP.2.2.2, lawWords_go (by omega), List.append_assoc]; rfl
  · (with_reducible rename ¬ (a : Int) < _ => hlt); (with_reducible rename Fr _ _ _ _ => F2); (with_reducible rename News _ _ _ _ => N2)
    refine hret (.ref l) _ _ _ (over_of F2 N2) ?_
    rw [hP.2.2.2, lawWords_end (by omega), List.append_nil]
    exact DatIn.list List.mem_cons_self (DatAll.mono (fun p hp => List.mem_cons_of_mem _ hp) hDt)

end

section
theorem figures_end_says (w : World) (mean : ExcName → Option Value) (mg mb : Str → Option Value) (x : Str) (t : Tok) (i : Nat) (u : Tok) (h1 : i ≤ x.length) (hx : x.length ≤ 10000) :
    Says w mean mg mb 22 1 [] [.str x t, .int i u] (fun r n => n = [] ∧ ∃ u, r = .int (runEnd isFig (codes x) i) u) := by
  intro dp un gd base fr g s Q E G O hd hu hret
  obtain ⟨H₀, GS₀, DR₀, TK₀, OS₀⟩ := s
  dsimp only at O hret ⊢
  have ⟨B, X, T⟩ := G
  (refine wpAny_call ?_; k_dflt (refine' enter_plain ?k1 ?k3 ?k5 ?k6 ?k7 ?k8 ?k9 ?kB ?_ ?c2 ?c3 ?c4 ?c5; (case k1 => assumption); (case k3 => assumption); (case k5 => assumption); (case k6 => k_is); (case k7 => k_is); (case k8 => exact room_of (by assumption)); (case k9 => exact BindsTo.of_eq rfl); (case kB => exact locs rfl); (case c2 => exact rfl); (case c3 => exact rfl); (case c4 => exact rfl); (case c5 => decide); intro _ _ _ _ _; (try dsimp only); (try k_fold)))
  (with_reducible rename Fr _ _ _ _ => F'); (with_reducible rename News _ _ _ _ => N')
  obtain ⟨m₀, hm, F'⟩ : ∃ m₀ : Str → Option Value, (m₀ (Str.ofString "text") = some (.str x t) ∧ m₀ (Str.ofString "at") = some (.int i u)) ∧ Fr g _ _ m₀ := ⟨_, ⟨rfl, rfl⟩, F'⟩
  k_steps
  refine Stop.mk ?_
  refine ksw_whileP (σ := Nat × Tok) (fun _ => []) (fun c => [(Str.ofString "text", .str x t), (Str.ofString "at", .int c.1 c.2)]) (fun _ => True) [] (fun c => c.1 ≤ x.length ∧ runEnd isFig (codes x) c.1 = runEnd isFig (codes x) i) (fun c => x.length - c.1) (i, u) F' N' trivial (List.forall_mem_cons.mpr ⟨hm.1, List.forall_mem_cons.mpr ⟨hm.2, fun _ h => nomatch h⟩⟩) ⟨h1, rfl⟩ ?_
  clear F' N'
  rintro M₀ ⟨c, tc⟩ U h tk Post - hP hPost F1 N1
  dsimp only at hP
  have hxl := codes_len x
  k_steps
  · (with_reducible rename (c : Int) < _ => hlt); (with_reducible rename List.isEmpty _ = _ => hocc)
    have hlt' : c < x.length := by exact_mod_cast hlt
    rw [item_one hlt', fig_in] at hocc
    refine hret (.int (c : Nat) tc) _ _ _ (over_of F1 N1) ⟨rfl, tc, ?_⟩
    rw [← hP.2, runEnd_stop (by simpa using hocc)]
  · (with_reducible rename (c : Int) < _ => hlt); (with_reducible rename List.isEmpty _ = _ => hocc); (with_reducible rename Fr _ _ _ _ => F2); (with_reducible rename News _ _ _ _ => N2)
    have hlt' : c < x.length := by exact_mod_cast hlt
    rw [item_one hlt', fig_in] at hocc
    refine hPost .next _ (ksw_end (c + 1, _) F2 N2 (fun _ h => nomatch h) trivial (List.forall_mem_cons.mpr ⟨rfl, List.forall_mem_cons.mpr ⟨rfl, fun _ h => nomatch h⟩⟩) (same_put (.inr (by simp)) (same_kst rfl)) ⟨hlt', ?_⟩ (by dsimp only; omega))
    rw [← hP.2]
    exact (runEnd_go (by omega) (by simpa using hocc)).symm
  · (with_reducible rename ¬ (c : Int) < _ => hlt)
    refine hret (.int (c : Nat) tc) _ _ _ (over_of F1 N1) ⟨rfl, tc, ?_⟩
    rw [← hP.2, runEnd_end (by omega)]

theorem blanks_end_says (w : World) (mean : ExcName → Option Value) (mg mb : Str → Option Value) (x : Str) (t : Tok) (i : Nat) (u : Tok) (h1 : i ≤ x.length) (hx : x.length ≤ 10000) :
    Says w mean mg mb 29 1 [] [.str x t, .int i u] (fun r n => n = [] ∧ ∃ u, r = .int (runEnd blank (codes x) i) u) := by
  intro dp un gd base fr g s Q E G O hd hu hret
  obtain ⟨H₀, GS₀, DR₀, TK₀, OS₀⟩ := s
  dsimp only at O hret ⊢
  have ⟨B, X, T⟩ := G
  (refine wpAny_call ?_; k_dflt (refine' enter_plain ?k1 ?k3 ?k5 ?k6 ?k7 ?k8 ?k9 ?kB ?_ ?c2 ?c3 ?c4 ?c5; (case k1 => assumption); (case k3 => assumption); (case k5 => assumption); (case k6 => k_is); (case k7 => k_is); (case k8 => exact room_of (by assumption)); (case k9 => exact BindsTo.of_eq rfl); (case kB => exact locs rfl); (case c2 => exact rfl); (case c3 => exact rfl); (case c4 => exact rfl); (case c5 => decide); intro _ _ _ _ _; (try dsimp only); (try k_fold)))
  (with_reducible rename Fr _ _ _ _ => F'); (with_reducible rename News _ _ _ _ => N')
  obtain ⟨m₀, hm, F'⟩ : ∃ m₀ : Str → Option Value, (m₀ (Str.ofString "text") = some (.str x t) ∧ m₀ (Str.ofString "at") = some (.int i u)) ∧ Fr g _ _ m₀ := ⟨_, ⟨rfl, rfl⟩, F'⟩
  k_steps
  refine Stop.mk ?_
  refine ksw_whileP (σ := Nat × Tok) (fun _ => []) (fun c => [(Str.ofString "text", .str x t), (Str.ofString "at", .int c.1 c.2)]) (fun _ => True) [] (fun c => c.1 ≤ x.length ∧ runEnd blank (codes x) c.1 = runEnd blank (codes x) i) (fun c => x.length - c.1) (i, u) F' N' trivial (List.forall_mem_cons.mpr ⟨hm.1, List.forall_mem_cons.mpr ⟨hm.2, fun _ h => nomatch h⟩⟩) ⟨h1, rfl⟩ ?_
  clear F' N'
  rintro M₀ ⟨c, tc⟩ U h tk Post - hP hPost F1 N1
  dsimp only at hP
  have hxl := codes_len x
  k_steps
  · (with_reducible rename (c : Int) < _ => hlt); (with_reducible rename (Txt.item _ _ == Str.ofString " ") = _ => hocc); (with_reducible rename Fr _ _ _ _ => F2); (with_reducible rename News _ _ _ _ => N2)
    have hlt' : c < x.length := by exact_mod_cast hlt
    rw [item_one hlt', sp_str, one_eq] at hocc
    refine hPost .next _ (ksw_end (c + 1, _) F2 N2 (fun _ h => nomatch h) trivial (List.forall_mem_cons.mpr ⟨rfl, List.forall_mem_cons.mpr ⟨rfl, fun _ h => nomatch h⟩⟩) (same_put (.inr (by simp)) (same_kst rfl)) ⟨hlt', ?_⟩ (by dsimp only; omega))
    rw [← hP.2]
    exact (runEnd_go (by omega) (by simpa using hocc)).symm
  · (with_reducible rename (c : Int) < _ => hlt); (with_reducible rename (Txt.item _ _ == Str.ofString " ") = _ => hocc)
    have hlt' : c < x.length := by exact_mod_cast hlt
    rw [item_one hlt', sp_str, one_eq] at hocc
    refine hret (.int (c : Nat) tc) _ _ _ (over_of F1 N1) ⟨rfl, tc, ?_⟩
    rw [← hP.2, runEnd_stop (by simpa using hocc)]
  · (with_reducible rename ¬ (c : Int) < _ => hlt)
    refine hret (.int (c : Nat) tc) _ _ _ (over_of F1 N1) ⟨rfl, tc, ?_⟩
    rw [← hP.2, runEnd_end (by omega)]

end

section
theorem fig_word' {c : Nat} (h : isFig c = true) : isWord c = true := by simp [isWord, h]
theorem out_range {a b c : Nat} (h : c < a ∨ b < c) : (decide (a ≤ c) && decide (c ≤ b)) = false := by
  rw [Bool.and_eq_false_iff, decide_eq_false_iff_not, decide_eq_false_iff_not]
  exact h.imp Nat.not_le_of_lt Nat.not_le_of_lt
theorem in_range {a b c : Nat} (h1 : ¬ c < a) (h2 : ¬ b < c) : (decide (a ≤ c) && decide (c ≤ b)) = true := by
  rw [Bool.and_eq_true, decide_eq_true_eq, decide_eq_true_eq]
  exact ⟨Nat.le_of_not_lt h1, Nat.le_of_not_lt h2⟩
theorem ws_pun {c : Nat} (h1 : c < 65 ∨ 90 < c) (h2 : c < 97 ∨ 122 < c) (h3 : isFig c = false) : (c == 46 || c == 36 || c == 37 || c == 33) = isWord c := by
  unfold isWord
  rw [out_range h1, out_range h2, h3]
  rfl
theorem ws_fig {c : Nat} (h : isFig c = true) : isFig c = isWord c := by rw [h, fig_word' h]
theorem ws_low {c : Nat} (h1 : ¬ c < 97) (h2 : ¬ 122 < c) : (!decide (122 < c)) = isWord c := by
  unfold isWord
  rw [in_range h1 h2, decide_eq_false h2, Bool.or_true]; rfl
theorem ws_up {c : Nat} (h1 : ¬ c < 65) (h2 : ¬ 90 < c) : (!decide (90 < c)) = isWord c := by
  unfold isWord
  rw [in_range h1 h2, decide_eq_false h2]; rfl
theorem is_word_sign_says (w : World) (mean : ExcName → Option Value) (mg mb : Str → Option Value) (c : Nat) (t : Tok) :
    Says w mean mg mb 43 1 [] [.str ⟨#[c]⟩ t] (fun r n => n = [] ∧ r = .bool (isWord c)) := by
  intro dp un gd base fr g s Q E G O hd hu hret
  obtain ⟨H₀, GS₀, DR₀, TK₀, OS₀⟩ := s
  dsimp only at O hret ⊢
  have ⟨B, X, T⟩ := G
  (refine wpAny_call ?_; k_dflt (refine' enter_plain ?k1 ?k3 ?k5 ?k6 ?k7 ?k8 ?k9 ?kB ?_ ?c2 ?c3 ?c4 ?c5; (case k1 => assumption); (case k3 => assumption); (case k5 => assumption); (case k6 => k_is); (case k7 => k_is); (case k8 => exact room_of (by assumption)); (case k9 => exact BindsTo.of_eq rfl); (case kB => exact locs rfl); (case c2 => exact rfl); (case c3 => exact rfl); (case c4 => exact rfl); (case c5 => decide); intro _ _ _ _ _; (try dsimp only); (try k_fold)))
  (with_reducible rename Fr _ _ _ _ => F'); (with_reducible rename News _ _ _ _ => N')
  k_steps
  all_goals (
    refine hret (.bool _) _ _ _ (over_of F' N') ⟨rfl, ?_⟩
    clear hret
    repeat (with_reducible rename List.isEmpty _ = _ => hx; revert hx)
    repeat (with_reducible rename @LT.lt (List Nat) _ _ _ => hx; revert hx)
    repeat (with_reducible rename ¬ @LT.lt (List Nat) _ _ _ => hx; revert hx)
    rw [Value.bool.injEq]
    simp only [l_one, l_A, l_Z, l_a, l_z, lt_one, fig_in, pun_in, Bool.not_not, Bool.not_eq_true', Bool.not_eq_false']
    intros
    first
    | exact ws_pun (by first | exact .inl ‹c < 65› | exact .inr ‹90 < c›) (by first | exact .inl ‹c < 97› | exact .inr ‹122 < c›) (by assumption)
    | exact ws_fig (by assumption)
    | exact ws_low ‹¬ c < 97› ‹¬ 122 < c›
    | exact ws_up ‹¬ c < 65› ‹¬ 90 < c›)
theorem word_sign_says (w : World) (mean : ExcName → Option Value) (mg mb : Str → Option Value) {y : Str} {c : Nat} (t : Tok) (hy : y = ⟨#[c]⟩) :
    Says w mean mg mb 43 1 [] [.str y t] (fun r n => n = [] ∧ r = .bool (isWord c)) := by
  subst hy; exact is_word_sign_says w mean mg mb c t

theorem word_end_says (w : World) (mean : ExcName → Option Value) (mg mb : Str → Option Value) (x : Str) (t : Tok) (i : Nat) (u : Tok) (h1 : i ≤ x.length) (hx : x.length ≤ 10000) :
    Says w mean mg mb 50 2 [] [.str x t, .int i u] (fun r n => n = [] ∧ ∃ u, r = .int (runEnd isWord (codes x) i) u) := by
  intro dp un gd base fr g s Q E G O hd hu hret
  obtain ⟨H₀, GS₀, DR₀, TK₀, OS₀⟩ := s
  dsimp only at O hret ⊢
  have ⟨B, X, T⟩ := G
  (refine wpAny_call ?_; k_dflt (refine' enter_plain ?k1 ?k3 ?k5 ?k6 ?k7 ?k8 ?k9 ?kB ?_ ?c2 ?c3 ?c4 ?c5; (case k1 => assumption); (case k3 => assumption); (case k5 => assumption); (case k6 => k_is); (case k7 => k_is); (case k8 => exact room_of (by assumption)); (case k9 => exact BindsTo.of_eq rfl); (case kB => exact locs rfl); (case c2 => exact rfl); (case c3 => exact rfl); (case c4 => exact rfl); (case c5 => decide); intro _ _ _ _ _; (try dsimp only); (try k_fold)))
  (with_reducible rename Fr _ _ _ _ => F'); (with_reducible rename News _ _ _ _ => N')
  obtain ⟨m₀, hm, F'⟩ : ∃ m₀ : Str → Option Value, (m₀ (Str.ofString "text") = some (.str x t) ∧ m₀ (Str.ofString "at") = some (.int i u)) ∧ Fr g _ _ m₀ := ⟨_, ⟨rfl, rfl⟩, F'⟩
  k_steps
  refine Stop.mk ?_
  refine ksw_whileP (σ := Nat × Tok) (fun _ => []) (fun c => [(Str.ofString "text", .str x t), (Str.ofString "at", .int c.1 c.2)]) (fun _ => True) [] (fun c => c.1 ≤ x.length ∧ runEnd isWord (codes x) c.1 = runEnd isWord (codes x) i) (fun c => x.length - c.1) (i, u) F' N' trivial (List.forall_mem_cons.mpr ⟨hm.1, List.forall_mem_cons.mpr ⟨hm.2, fun _ h => nomatch h⟩⟩) ⟨h1, rfl⟩ ?_
  clear F' N'
  rintro M₀ ⟨c, tc⟩ U h tk Post - hP hPost F1 N1
  dsimp only at hP
  have hxl := codes_len x
  k_steps
  · (with_reducible rename (c : Int) < _ => hlt)
    have hlt' : c < x.length := by exact_mod_cast hlt
    refine Stop.mk ?_
    refine Says.useD (word_sign_says w mean mg mb _ (item_one hlt')) G F1 N1 rfl rfl (by omega) (by omega) ?_
    rintro r own h₂ tk₂ F1' N1' - - - ⟨rfl, rfl⟩
    clear F1 N1
    dsimp only [List.nil_append] at N1'
    k_steps
    · (with_reducible rename isWord _ = _ => hw); (with_reducible rename Fr _ _ _ _ => F2); (with_reducible rename News _ _ _ _ => N2)
      refine hPost .next _ (ksw_end (c + 1, _) F2 N2 (fun _ h => nomatch h) trivial (List.forall_mem_cons.mpr ⟨rfl, List.forall_mem_cons.mpr ⟨rfl, fun _ h => nomatch h⟩⟩) (same_put (.inr (by simp)) (same_kst rfl)) ⟨hlt', ?_⟩ (by dsimp only; omega))
      rw [← hP.2]
      exact (runEnd_go (by omega) hw).symm
    · (with_reducible rename isWord _ = _ => hw)
      refine hret (.int (c : Nat) tc) _ _ _ (over_of F1' N1') ⟨rfl, tc, ?_⟩
      rw [← hP.2, runEnd_stop hw]
  · (with_reducible rename ¬ (c : Int) < _ => hlt)
    refine hret (.int (c : Nat) tc) _ _ _ (over_of F1 N1) ⟨rfl, tc, ?_⟩
    rw [← hP.2, runEnd_end (by omega)]

end

section
theorem quote_end_says (w : World) (mean : ExcName → Option Value) (mg mb : Str → Option Value) (x : Str) (t : Tok) (i : Nat) (u : Tok) (h1 : i < x.length) (hx : x.length ≤ 10000) :
    Says w mean mg mb 57 1 [] [.str x t, .int i u] (fun r n => n = [] ∧ ∃ u, r = .int (quoteEnd (codes x) i) u) := by
  intro dp un gd base fr g s Q E G O hd hu hret
  obtain ⟨H₀, GS₀, DR₀, TK₀, OS₀⟩ := s
  dsimp only at O hret ⊢
  have ⟨B, X, T⟩ := G
  (refine wpAny_call ?_; k_dflt (refine' enter_plain ?k1 ?k3 ?k5 ?k6 ?k7 ?k8 ?k9 ?kB ?_ ?c2 ?c3 ?c4 ?c5; (case k1 => assumption); (case k3 => assumption); (case k5 => assumption); (case k6 => k_is); (case k7 => k_is); (case k8 => exact room_of (by assumption)); (case k9 => exact BindsTo.of_eq rfl); (case kB => exact locs rfl); (case c2 => exact rfl); (case c3 => exact rfl); (case c4 => exact rfl); (case c5 => decide); intro _ _ _ _ _; (try dsimp only); (try k_fold)))
  (with_reducible rename Fr _ _ _ _ => F'); (with_reducible rename News _ _ _ _ => N')
  k_steps
  · (with_reducible rename Txt.find3 _ _ _ < 0 => hf); (with_reducible rename Fr _ _ _ _ => F'); (with_reducible rename News _ _ _ _ => N')
    exact hret _ _ _ _ (over_of F' N') ⟨rfl, _, by rw [(find_quote h1).1 hf]⟩
  · (with_reducible rename ¬ Txt.find3 _ _ _ < 0 => hf); (with_reducible rename Fr _ _ _ _ => F'); (with_reducible rename News _ _ _ _ => N')
    exact hret _ _ _ _ (over_of F' N') ⟨rfl, _, by rw [(find_quote h1).2 hf]⟩
theorem data_end_says (w : World) (mean : ExcName → Option Value) (mg mb : Str → Option Value) (x : Str) (t : Tok) (i : Nat) (u : Tok) (h1 : i ≤ x.length) (hx : x.length ≤ 10000) :
    Says w mean mg mb 64 2 [] [.str x t, .int i u] (fun r n => n = [] ∧ ∃ u, r = .int (dataEnd (codes x) i) u) := by
  intro dp un gd base fr g s Q E G O hd hu hret
  obtain ⟨H₀, GS₀, DR₀, TK₀, OS₀⟩ := s
  dsimp only at O hret ⊢
  have ⟨B, X, T⟩ := G
  (refine wpAny_call ?_; k_dflt (refine' enter_plain ?k1 ?k3 ?k5 ?k6 ?k7 ?k8 ?k9 ?kB ?_ ?c2 ?c3 ?c4 ?c5; (case k1 => assumption); (case k3 => assumption); (case k5 => assumption); (case k6 => k_is); (case k7 => k_is); (case k8 => exact room_of (by assumption)); (case k9 => exact BindsTo.of_eq rfl); (case kB => exact locs rfl); (case c2 => exact rfl); (case c3 => exact rfl); (case c4 => exact rfl); (case c5 => decide); intro _ _ _ _ _; (try dsimp only); (try k_fold)))
  (with_reducible rename Fr _ _ _ _ => F'); (with_reducible rename News _ _ _ _ => N')
  obtain ⟨m₀, hm, F'⟩ : ∃ m₀ : Str → Option Value, (m₀ (Str.ofString "text") = some (.str x t) ∧ m₀ (Str.ofString "at") = some (.int i u)) ∧ Fr g _ _ m₀ := ⟨_, ⟨rfl, rfl⟩, F'⟩
  k_steps
  refine Stop.mk ?_
  refine ksw_whileP (σ := Nat × Tok) (fun _ => []) (fun c => [(Str.ofString "text", .str x t), (Str.ofString "at", .int c.1 c.2)]) (fun _ => True) [] (fun c => c.1 ≤ x.length ∧ dataEnd (codes x) c.1 = dataEnd (codes x) i) (fun c => x.length - c.1) (i, u) F' N' trivial (List.forall_mem_cons.mpr ⟨hm.1, List.forall_mem_cons.mpr ⟨hm.2, fun _ h => nomatch h⟩⟩) ⟨h1, rfl⟩ ?_
  clear F' N'
  rintro M₀ ⟨c, tc⟩ U h tk Post - hP hPost F1 N1
  dsimp only at hP
  have hxl := codes_len x
  k_steps
  · (with_reducible rename (c : Int) < _ => hlt); (with_reducible rename (Txt.item _ _ != _) = _ => hc1); (with_reducible rename (Txt.item _ _ == _) = _ => hc2)
    have hlt' : c < x.length := by exact_mod_cast hlt
    rw [item_one hlt', cl_str] at hc1
    rw [item_one hlt', qu_str, one_eq] at hc2
    refine Stop.mk ?_
    refine Says.useD (quote_end_says w mean mg mb x t c _ hlt' hx) G F1 N1 rfl rfl (by omega) (by omega) ?_
    rintro r own h₂ tk₂ F1' N1' - - - ⟨rfl, u₂, rfl⟩
    clear F1 N1
    dsimp only [List.nil_append] at N1'
    k_steps
    (with_reducible rename Fr _ _ _ _ => F2); (with_reducible rename News _ _ _ _ => N2)
    have hq := quoteEnd_gt (cs := codes x) (i := c) (by omega)
    have hq' := quoteEnd_len (codes x) c
    refine hPost .next _ (ksw_end (quoteEnd (codes x) c, _) F2 N2 (fun _ h => nomatch h) trivial (List.forall_mem_cons.mpr ⟨rfl, List.forall_mem_cons.mpr ⟨rfl, fun _ h => nomatch h⟩⟩) (same_put (.inr (by simp)) (same_kst rfl)) ⟨by dsimp only; omega, ?_⟩ (by dsimp only; omega))
    rw [← hP.2]
    exact (dataEnd_quote (by omega) (by simpa using hc2)).symm
  · (with_reducible rename (c : Int) < _ => hlt); (with_reducible rename (Txt.item _ _ != _) = _ => hc1); (with_reducible rename (Txt.item _ _ == _) = _ => hc2); (with_reducible rename Fr _ _ _ _ => F2); (with_reducible rename News _ _ _ _ => N2)
    have hlt' : c < x.length := by exact_mod_cast hlt
    rw [item_one hlt', cl_str, bne, one_eq] at hc1
    rw [item_one hlt', qu_str, one_eq] at hc2
    refine hPost .next _ (ksw_end (c + 1, _) F2 N2 (fun _ h => nomatch h) trivial (List.forall_mem_cons.mpr ⟨rfl, List.forall_mem_cons.mpr ⟨rfl, fun _ h => nomatch h⟩⟩) (same_put (.inr (by simp)) (same_kst rfl)) ⟨hlt', ?_⟩ (by dsimp only; omega))
    rw [← hP.2]
    exact (dataEnd_go (by omega) (by simpa using hc1) (by simpa using hc2)).symm
  · (with_reducible rename (c : Int) < _ => hlt); (with_reducible rename (Txt.item _ _ != _) = _ => hc1)
    have hlt' : c < x.length := by exact_mod_cast hlt
    rw [item_one hlt', cl_str, bne, one_eq] at hc1
    refine hret (.int (c : Nat) tc) _ _ _ (over_of F1 N1) ⟨rfl, tc, ?_⟩
    rw [← hP.2, dataEnd_stop (by simpa using hc1)]
  · (with_reducible rename ¬ (c : Int) < _ => hlt)
    refine hret (.int (c : Nat) tc) _ _ _ (over_of F1 N1) ⟨rfl, tc, ?_⟩
    rw [← hP.2, dataEnd_end (by omega)]

end

section
/-- what gather_spots knows between its turns -/
structure GS where
  b : Nat
  a : Nat
  ta : Tok
  tb : Tok
  te : Tok
  n : Nat
  ws : List Value
  tl : List (Addr × Obj)
  done : List (Nat × Nat)

theorem gather_spots_says (w : World) (mean : ExcName → Option Value) (mg mb : Str → Option Value) (x : Str) (t : Tok) (i : Nat) (u : Tok) (l : Addr) (n₀ : Nat) (h1 : i ≤ x.length) (hx : x.length ≤ 10000) :
    Says w mean mg mb 83 3 [(l, listOf ([] : List Value).toArray n₀)] [.str x t, .int i u, .ref l] (fun r n => ∃ ws n' tl u, n = (l, listOf ws.toArray n') :: tl ∧ (∀ p ∈ tl, p.1 ≠ l) ∧ DatAll tl ws ((gather (codes x) (runEnd blank (codes x) i) i).1.map spotD) ∧ r = .int (gather (codes x) (runEnd blank (codes x) i) i).2 u) := by
  intro dp un gd base fr g s Q E G O hd hu hret
  obtain ⟨H₀, GS₀, DR₀, TK₀, OS₀⟩ := s
  dsimp only at O hret ⊢
  have ⟨B, X, T⟩ := G
  have hxl := codes_len x
  (refine wpAny_call ?_; k_dflt (refine' enter_plain ?k1 ?k3 ?k5 ?k6 ?k7 ?k8 ?k9 ?kB ?_ ?c2 ?c3 ?c4 ?c5; (case k1 => assumption); (case k3 => assumption); (case k5 => assumption); (case k6 => k_is); (case k7 => k_is); (case k8 => exact room_of (by assumption)); (case k9 => exact BindsTo.of_eq rfl); (case kB => exact locs rfl); (case c2 => exact rfl); (case c3 => exact rfl); (case c4 => exact rfl); (case c5 => decide); intro _ _ _ _ _; (try dsimp only); (try k_fold)))
  (with_reducible rename Fr _ _ _ _ => F'); (with_reducible rename News _ _ _ _ => N')
  k_steps
  refine Stop.mk ?_
  refine Says.useD (blanks_end_says w mean mg mb x t i _ h1 hx) G F' N' rfl rfl (by omega) (by omega) ?_
  rintro r own h₂ tk₂ F1 N1 - - - ⟨rfl, u₂, rfl⟩
  clear F' N'
  dsimp only [List.nil_append] at N1
  k_steps
  refine Stop.mk ?_
  (with_reducible rename Fr _ _ _ _ => F'); (with_reducible rename News _ _ _ _ => N')
  have hb0 := runEnd_len (p := blank) (cs := codes x) (i := i) (by omega)
  refine Says.useD (figures_end_says w mean mg mb x t (runEnd blank (codes x) i) _ (by omega) hx) G F' N' rfl rfl (by omega) (by omega) ?_
  rintro r own h₂ tk₂ F1 N1 - - - ⟨rfl, u₃, rfl⟩
  clear F' N'
  dsimp only [List.nil_append] at N1
  k_steps
  refine Stop.mk ?_
  (with_reducible rename Fr _ _ _ _ => F'); (with_reducible rename News _ _ _ _ => N')
  obtain ⟨R, hR⟩ : ∃ y, gather (codes x) (runEnd blank (codes x) i) i = y := ⟨_, rfl⟩
  rw [hR] at hret
  refine ksw_whileT (σ := GS) (fun c => (l, listOf c.ws.toArray c.n) :: c.tl) (fun c => [(Str.ofString "text", .str x t), (Str.ofString "at", .int c.a c.ta), (Str.ofString "found", .ref l), (Str.ofString "begin", .int c.b c.tb), (Str.ofString "end", .int (runEnd isFig (codes x) c.b) c.te)])
    (fun c => DatAll c.tl c.ws (c.done.map spotD) ∧ ∀ p ∈ c.tl, p.1 ≠ l) [Str.ofString "comma"]
    (fun c => c.b ≤ x.length ∧ c.done.length ≤ c.b ∧ R = (c.done ++ (gather (codes x) c.b c.a).1, (gather (codes x) c.b c.a).2)) (fun c => x.length - c.b)
    (fun c => c.b < runEnd isFig (codes x) c.b ∧ (runEnd isFig (codes x) c.b = (codes x).length ∨ isWord ((codes x).getD (runEnd isFig (codes x) c.b) 0) = false)) (fun c => ¬ (c.b < runEnd isFig (codes x) c.b ∧ (runEnd isFig (codes x) c.b = (codes x).length ∨ isWord ((codes x).getD (runEnd isFig (codes x) c.b) 0) = false)))
    ⟨runEnd blank (codes x) i, i, _, _, _, _, [], [], []⟩ F' N' ⟨DatAll.nil, fun _ h => nomatch h⟩ (List.forall_mem_cons.mpr ⟨rfl, List.forall_mem_cons.mpr ⟨rfl, List.forall_mem_cons.mpr ⟨rfl, List.forall_mem_cons.mpr ⟨rfl, List.forall_mem_cons.mpr ⟨rfl, fun _ h => nomatch h⟩⟩⟩⟩⟩) ⟨by dsimp only; omega, Nat.zero_le _, hR ▸ rfl⟩ ?_ ?_ ?_
  all_goals (try clear F'); (try clear N')
  · rintro M₀ ⟨b, a, ta, tb, te, n, ws, tl, done⟩ U h tk Yes No ⟨hD, hoff⟩ hP hYes hNo F1 N1
    dsimp only at hD hoff hP hYes hNo F1 N1 ⊢
    have he := runEnd_len (p := isFig) (cs := codes x) (i := b) (by omega)
    k_steps
    · (with_reducible rename (_ : Int) = _ => hlen); (with_reducible rename (_ : Int) < _ => hbe)
      (with_reducible rename Fr _ _ _ _ => F2); (with_reducible rename News _ _ _ _ => N2)
      exact hYes _ _ F2 N2 ⟨by omega, .inl (by omega)⟩
    · (with_reducible rename (_ : Int) ≠ _ => hlen); (with_reducible rename (_ : Int) < _ => hbe)
      refine Stop.mk ?_
      (with_reducible rename Fr _ _ _ _ => F2); (with_reducible rename News _ _ _ _ => N2)
      refine Says.useD (word_sign_says w mean mg mb _ (item_one (by omega))) G F2 N2 rfl rfl (by omega) (by omega) ?_
      rintro r own h₃ tk₃ F3 N3 - - - ⟨rfl, rfl⟩
      (try clear F2); (try clear N2)
      dsimp only [List.nil_append] at N3
      k_steps
      · (with_reducible rename isWord _ = _ => hw); (with_reducible rename Fr _ _ _ _ => F2); (with_reducible rename News _ _ _ _ => N2)
        refine hNo _ _ F2 N2 ?_
        rintro ⟨_, h | h⟩
        · omega
        · rw [h] at hw; cases hw
      · (with_reducible rename isWord _ = _ => hw); (with_reducible rename Fr _ _ _ _ => F2); (with_reducible rename News _ _ _ _ => N2)
        exact hYes _ _ F2 N2 ⟨by omega, .inr (by simpa using hw)⟩
    · (with_reducible rename ¬ (_ : Int) < _ => hbe)
      (with_reducible rename Fr _ _ _ _ => F2); (with_reducible rename News _ _ _ _ => N2)
      exact hNo _ _ F2 N2 (fun h => by have := h.1; omega)
  · rintro M₀ ⟨b, a, ta, tb, te, n, ws, tl, done⟩ U h tk Post ⟨hD, hoff⟩ hP hcond hPost F1 N1
    dsimp only at hD hoff hP hcond hPost F1 N1 ⊢
    have he := runEnd_len (p := isFig) (cs := codes x) (i := b) (by omega)
    have hbe := hcond.1
    k_steps
    refine Stop.mk ?_
    (with_reducible rename Fr _ _ _ _ => F2); (with_reducible rename News _ _ _ _ => N2); (with_reducible rename _ ∧ AllLt _ _ => hl1)
    have hws : ws.length ≤ 10000 := by rw [hD.length, List.length_map]; omega
    refine append_K F2 N2 (Upd.tail (Nat.ne_of_gt hl1.1) (Upd.head hoff)) ?_ (by rw [List.size_toArray]; exact Nat.le_trans hws (by decide))
    intro h₃ F3 N3
    rw [List.push_toArray] at N3
    have hD2 := fun D nn => spot_snoc hD D b (runEnd isFig (codes x) b) tb te nn
    have hoff2 : ∀ (D : Addr) (o : Obj), l < D → ∀ p ∈ (D, o) :: tl, p.1 ≠ l := fun D o h => List.forall_mem_cons.mpr ⟨Nat.ne_of_gt h, hoff⟩
    have hl2 := hl1.1
    (try clear F2); (try clear N2)
    k_steps
    refine Stop.mk ?_
    (with_reducible rename Fr _ _ _ _ => F2); (with_reducible rename News _ _ _ _ => N2)
    have hcle := runEnd_len (p := blank) (cs := codes x) (i := runEnd isFig (codes x) b) he
    have hcge := runEnd_ge (p := blank) (cs := codes x) (i := runEnd isFig (codes x) b) he
    refine Says.useD (blanks_end_says w mean mg mb x t (runEnd isFig (codes x) b) _ (by omega) hx) G F2 N2 rfl rfl (by omega) (by omega) ?_
    rintro r own h₄ tk₄ F4 N4 - - - ⟨rfl, u₄, rfl⟩
    (try clear F2); (try clear N2); (try clear F3); (try clear N3)
    dsimp only [List.nil_append] at N4
    k_steps
    · (with_reducible rename (_ != Str.ofString ",") = _ => hcm); (with_reducible rename Fr _ _ _ _ => F2); (with_reducible rename News _ _ _ _ => N2)
      rw [slice_comma (by omega)] at hcm
      have hg := gather_one (cs := codes x) (b := b) (a := a) hcond (comma_no hcm)
      rw [hg] at hP
      refine hPost (.ret _) _ (hret (.int (runEnd isFig (codes x) b : Nat) te) _ _ _ (over_of F2 (news_sub N2 swap_sub)) ⟨_, _, _, te, rfl, hoff2 _ _ hl2, ?_, ?_⟩)
      · rw [hP.2.2]; exact hD2 _ _
      · rw [hP.2.2]
    · (with_reducible rename (_ != Str.ofString ",") = _ => hcm); (with_reducible rename Fr _ _ _ _ => F2); (with_reducible rename News _ _ _ _ => N2)
      rw [slice_comma (by omega)] at hcm
      have hcm' : runEnd blank (codes x) (runEnd isFig (codes x) b) < (codes x).length ∧ (codes x).getD (runEnd blank (codes x) (runEnd isFig (codes x) b)) 0 = 44 := comma_yes hcm
      have hg := gather_more (cs := codes x) (b := b) (a := a) hcond hcm'
      have hb2 := runEnd_len (p := blank) (cs := codes x) (i := runEnd blank (codes x) (runEnd isFig (codes x) b) + 1) (by omega)
      have hb3 := runEnd_ge (p := blank) (cs := codes x) (i := runEnd blank (codes x) (runEnd isFig (codes x) b) + 1) (by omega)
      refine Stop.mk ?_
      refine Says.useD (blanks_end_says w mean mg mb x t (runEnd blank (codes x) (runEnd isFig (codes x) b) + 1) _ (by omega) hx) G F2 N2 rfl rfl (by omega) (by omega) ?_
      rintro r own h₅ tk₅ F5 N5 - - - ⟨rfl, u₅, rfl⟩
      (try clear F2); (try clear N2); (try clear F4); (try clear N4)
      dsimp only [List.nil_append] at N5
      k_steps
      refine Stop.mk ?_
      (with_reducible rename Fr _ _ _ _ => F2); (with_reducible rename News _ _ _ _ => N2)
      refine Says.useD (figures_end_says w mean mg mb x t (runEnd blank (codes x) (runEnd blank (codes x) (runEnd isFig (codes x) b) + 1)) _ (by omega) hx) G F2 N2 rfl rfl (by omega) (by omega) ?_
      rintro r own h₅ tk₅ F5 N5 - - - ⟨rfl, u₆, rfl⟩
      (try clear F2); (try clear N2)
      dsimp only [List.nil_append] at N5
      k_steps
      (with_reducible rename Fr _ _ _ _ => F2); (with_reducible rename News _ _ _ _ => N2)
      refine hPost .next _ (ksw_end (GS.mk (runEnd blank (codes x) (runEnd blank (codes x) (runEnd isFig (codes x) b) + 1)) (runEnd isFig (codes x) b) te _ _ _ _ _ (done ++ [(b, runEnd isFig (codes x) b)])) F2 N2 swap_sub ⟨hD2 _ _, hoff2 _ _ hl2⟩
        (List.forall_mem_cons.mpr ⟨rfl, List.forall_mem_cons.mpr ⟨rfl, List.forall_mem_cons.mpr ⟨rfl, List.forall_mem_cons.mpr ⟨rfl, List.forall_mem_cons.mpr ⟨rfl, fun _ h => nomatch h⟩⟩⟩⟩⟩) (same_put (.inr (by simp)) (same_put (.inr (by simp)) (same_put (.inl (by decide)) (same_put (.inr (by simp)) (same_kst rfl))))) ⟨by dsimp only; omega, by dsimp only; rw [List.length_append]; simp only [List.length_cons, List.length_nil]; omega, ?_⟩ (Nat.sub_lt_sub_left (show b < x.length by omega) (show b < runEnd blank (codes x) (runEnd blank (codes x) (runEnd isFig (codes x) b) + 1) by omega)))
      dsimp only
      rw [hP.2.2, hg]
      simp

  · rintro M₀ ⟨b, a, ta, tb, te, n, ws, tl, done⟩ U h tk ⟨hD, hoff⟩ hP hX F1 N1
    dsimp only at hD hoff hP hX F1 N1 ⊢
    have hg := gather_no (cs := codes x) (b := b) (a := a) hX
    rw [hg] at hP
    k_steps
    (with_reducible rename Fr _ _ _ _ => F2); (with_reducible rename News _ _ _ _ => N2)
    refine hret (.int (a : Nat) ta) _ _ _ (over_of F2 N2) ⟨_, _, _, ta, rfl, hoff, ?_, ?_⟩
    · rw [hP.2.2]; simpa using hD
    · rw [hP.2.2]

end

section
local macro_rules
  | `(tactic| walk_at $s) => let k := s.getString; if k == "execs cons" then `(tactic| with_reducible refine stop_none ?_) else Lean.Macro.throwUnsupported
theorem same_kstJ {m' m₀ : Str → Option Value} {qs ps : List (Str × Value)} {stored : List Str} (hq : ∀ q ∈ qs.map (·.1), stored.contains q = true ∨ q ∈ ps.map (·.1))
    (h : ∀ z, (∀ p ∈ ps, z ≠ p.1) → stored.contains z = false → m' z = m₀ z) : ∀ z, (∀ p ∈ ps, z ≠ p.1) → stored.contains z = false → kstB m' qs z = m₀ z := by
  intro z h3 h4
  rw [kstB_off]
  · exact h z h3 h4
  · rintro q hq' rfl
    rcases hq q.1 (List.mem_map_of_mem hq') with h5 | h5
    · rw [h4] at h5; cases h5
    · obtain ⟨p, hp, e⟩ := List.mem_map.mp h5
      exact h3 p hp e.symm
/-- the same names, other values -/
theorem same_names {m' m₀ : Str → Option Value} {qs ps : List (Str × Value)} {stored : List Str} (e : ps.map (·.1) = qs.map (·.1)) (h : ∀ z, (∀ p ∈ qs, z ≠ p.1) → stored.contains z = false → m' z = m₀ z) : ∀ z, (∀ p ∈ ps, z ≠ p.1) → stored.contains z = false → m' z = m₀ z := by
  intro z h1 h2
  refine h z (fun p hp q => ?_) h2
  have : p.1 ∈ ps.map (·.1) := e ▸ List.mem_map_of_mem hp
  obtain ⟨r, hr, e'⟩ := List.mem_map.mp this
  exact h1 r hr (q.trans e'.symm)
/-- behind is_none = … -/
noncomputable def IJ (g : Heap) (L : Addr) (x W ah : Str) (t ta th u : Tok) (l sA : Addr) (a e gat : Nat) (NL : List (Addr × Obj)) (M₀ : Str → Option Value) (GS : Array GenState) (DR : Drawn) (OS : OsState) (s' : Shared) : Prop :=
  ∃ (h' : Heap) (tk' : Nat) (m' : Str → Option Value) (tw : Tok) (b : Bool), s' = ⟨h', GS, DR, tk', OS⟩ ∧ Fr g L h' m' ∧ News g L h' NL ∧ m' (Str.ofString "text") = some (.str x t) ∧ m' (Str.ofString "found") = some (.ref l) ∧ m' (Str.ofString "at") = some (.int gat u) ∧
    m' (Str.ofString "word") = some (.str W tw) ∧ m' (Str.ofString "some") = some (.ref sA) ∧ m' (Str.ofString "is_none") = some (.bool b) ∧ (b = true ↔ wordOf (codes x) a e = wRESUME ∨ (wordOf (codes x) a e = wGOTO ∧ codes ah = wERROR)) ∧
    (∀ z, (∀ p ∈ [(Str.ofString "text", Value.str x t), (Str.ofString "found", Value.ref l), (Str.ofString "at", Value.int a ta), (Str.ofString "ahead", Value.str ah th)], z ≠ p.1) → [Str.ofString "sign", Str.ofString "end", Str.ofString "word", Str.ofString "some", Str.ofString "is_none"].contains z = false → m' z = M₀ z)
/-- what told_spots knows between its turns -/
structure TS where
  a : Nat
  ah : Str
  k : Nat
  ta : Tok
  th : Tok
  n : Nat
  ws : List Value
  tl : List (Addr × Obj)
  done : List (Nat × Nat)

theorem told_spots_says (w : World) (mean : ExcName → Option Value) (mg mb : Str → Option Value) (x : Str) (t : Tok) (hx : x.length ≤ 10000) :
    Says w mean mg mb 71 6 [] [.str x t] (fun r n => DatIn n r (Dat.list ((told (codes x) (x.length + 1) 0 []).map spotD))) := by
  intro dp un gd base fr g s Q E G O hd hu hret
  obtain ⟨H₀, GS₀, DR₀, TK₀, OS₀⟩ := s
  dsimp only at O hret ⊢
  have ⟨B, X, T⟩ := G
  have hxl := codes_len x
  (refine wpAny_call ?_; k_dflt (refine' enter_plain ?k1 ?k3 ?k5 ?k6 ?k7 ?k8 ?k9 ?kB ?_ ?c2 ?c3 ?c4 ?c5; (case k1 => assumption); (case k3 => assumption); (case k5 => assumption); (case k6 => k_is); (case k7 => k_is); (case k8 => exact room_of (by assumption)); (case k9 => exact BindsTo.of_eq rfl); (case kB => exact locs rfl); (case c2 => exact rfl); (case c3 => exact rfl); (case c4 => exact rfl); (case c5 => decide); intro _ _ _ _ _; (try dsimp only); (try k_fold)))
  (with_reducible rename Fr _ _ _ _ => F'); (with_reducible rename News _ _ _ _ => N')
  rename_i L _ _
  k_steps
  rename_i l _ _ D _ hlD _ _ _ _ F' N'
  refine Stop.mk ?_
  obtain ⟨R, hR⟩ : ∃ y, told (codes x) (x.length + 1) 0 [] = y := ⟨_, rfl⟩
  rw [hR] at hret
  refine ksw_whileP (σ := TS) (fun c => (l, listOf c.ws.toArray c.n) :: c.tl) (fun c => [(Str.ofString "text", .str x t), (Str.ofString "found", .ref l), (Str.ofString "at", .int c.a c.ta), (Str.ofString "ahead", .str c.ah c.th)])
    (fun c => DatAll c.tl c.ws (c.done.map spotD) ∧ ∀ p ∈ c.tl, p.1 ≠ l) [Str.ofString "sign", Str.ofString "end", Str.ofString "word", Str.ofString "some", Str.ofString "is_none"]
    (fun c => c.a ≤ x.length ∧ c.done.length ≤ c.a ∧ x.length < c.k + c.a ∧ R = c.done ++ told (codes x) c.k c.a (codes c.ah)) (fun c => x.length - c.a)
    ⟨0, Str.ofString "", x.length + 1, _, _, _, [], [], []⟩ F' (news_sub N' (fun p hp => List.mem_cons_of_mem _ hp)) ⟨DatAll.nil, fun _ h => nomatch h⟩ (List.forall_mem_cons.mpr ⟨rfl, List.forall_mem_cons.mpr ⟨rfl, List.forall_mem_cons.mpr ⟨rfl, List.forall_mem_cons.mpr ⟨rfl, fun _ h => nomatch h⟩⟩⟩⟩) ⟨Nat.zero_le _, Nat.zero_le _, by dsimp only; omega, hR.symm⟩ ?_
  clear F' N'
  rintro M₀ ⟨a, ah, k, ta, th, n, ws, tl, done⟩ U h tk Post ⟨hDt, hoff⟩ hP hPost F1 N1
  dsimp only at hDt hoff hP F1 N1 ⊢
  k_steps
  · (with_reducible rename (a : Int) < _ => hlt); (with_reducible rename (Txt.item _ _ == _) = _ => hc1); (with_reducible rename Fr _ _ _ _ => F2); (with_reducible rename News _ _ _ _ => N2)
    have hlt' : a < x.length := by exact_mod_cast hlt
    rw [item_one hlt', qu_str, one_eq] at hc1
    refine Stop.mk ?_
    refine Says.useD (quote_end_says w mean mg mb x t a _ hlt' hx) G F2 N2 rfl rfl (by omega) (by omega) ?_
    rintro r own h₂ tk₂ F3 N3 - - - ⟨rfl, u₂, rfl⟩
    (try clear F1); (try clear N1); (try clear F2); (try clear N2)
    dsimp only [List.nil_append] at N3
    k_steps
    (with_reducible rename Fr _ _ _ _ => F2); (with_reducible rename News _ _ _ _ => N2)
    have hq := quoteEnd_gt (cs := codes x) (i := a) (by omega)
    have hq' := quoteEnd_len (codes x) a
    obtain ⟨k, rfl⟩ : ∃ k', k = k' + 1 := ⟨k - 1, by omega⟩
    refine hPost .next _ (ksw_end (TS.mk (quoteEnd (codes x) a) (Str.ofString "") k _ _ n ws tl done) F2 N2 (fun p hp => by dsimp only at hp; first | exact hp | exact List.mem_cons_of_mem _ hp) ⟨hDt, hoff⟩ (by ((repeat (refine List.forall_mem_cons.mpr ⟨rfl, ?_⟩)); exact fun _ h => nomatch h)) (by (repeat (first | exact same_kst rfl | refine same_put (by first | exact Or.inl (by decide) | exact Or.inr (by simp)) ?_))) ⟨by dsimp only; omega, by dsimp only; omega, by dsimp only; omega, ?_⟩ (Nat.sub_lt_sub_left hlt' (hq)))
    dsimp only
    rw [hP.2.2.2, told_quote (by omega) (by simpa using hc1), codes_empty]
  · (with_reducible rename (a : Int) < _ => hlt); (with_reducible rename (Txt.item _ _ == _) = true => hc1); (with_reducible rename Fr _ _ _ _ => F2); (with_reducible rename News _ _ _ _ => N2)
    have hlt' : a < x.length := by exact_mod_cast hlt
    rw [item_one hlt', ap_str, one_eq] at hc1
    refine hPost _ _ (hret (.ref l) _ _ _ (over_of F2 N2) ?_)
    rw [hP.2.2.2, told_remark (by simpa using hc1), List.append_nil]
    exact DatIn.list List.mem_cons_self (DatAll.mono (fun p hp => List.mem_cons_of_mem _ hp) hDt)
  · (with_reducible rename (a : Int) < _ => hlt)
    have hlt' : a < x.length := by exact_mod_cast hlt
    (with_reducible rename (Txt.item _ _ == Str.ofString "'") = _ => hc2); (with_reducible rename (Txt.item _ _ == Str.ofString "\"") = _ => hc1); (with_reducible rename Fr _ _ _ _ => F2); (with_reducible rename News _ _ _ _ => N2)
    rw [item_one hlt', qu_str, one_eq] at hc1
    rw [item_one hlt', ap_str, one_eq] at hc2
    obtain ⟨k, rfl⟩ : ∃ k', k = k' + 1 := ⟨k - 1, by omega⟩
    refine Stop.mk ?_
    refine Says.useD (word_sign_says w mean mg mb _ (item_one hlt')) G F2 N2 rfl rfl (by omega) (by omega) ?_
    rintro r own h₃ tk₃ F3 N3 - - - ⟨rfl, rfl⟩
    (try clear F1); (try clear N1); (try clear F2); (try clear N2)
    dsimp only [List.nil_append] at N3
    k_steps
    · (with_reducible rename isWord _ = _ => hw)
      refine Stop.mk ?_
      (with_reducible rename Fr _ _ _ _ => F2); (with_reducible rename News _ _ _ _ => N2)
      refine Says.useD (word_end_says w mean mg mb x t a _ (by omega) hx) G F2 N2 rfl rfl (by omega) (by omega) ?_
      rintro r own h₄ tk₄ F4 N4 - - - ⟨rfl, u₄, rfl⟩
      (try clear F2); (try clear N2); (try clear F3); (try clear N3)
      dsimp only [List.nil_append] at N4
      have hege := runEnd_ge (p := isWord) (cs := codes x) (i := a + 1) (by omega)
      have hele := runEnd_len (p := isWord) (cs := codes x) (i := a + 1) (by omega)
      rw [← runEnd_go (by omega) hw] at hege hele
      have hWd := upper_word (x := x) (a := a) (by omega)
      k_steps
      · (with_reducible rename (Txt.upper _ == Str.ofString "REM") = _ => hrem); (with_reducible rename Fr _ _ _ _ => F2); (with_reducible rename News _ _ _ _ => N2)
        rw [beq_codes, hWd, c_REM] at hrem
        refine hPost _ _ (hret (.ref l) _ _ _ (over_of F2 N2) ?_)
        rw [hP.2.2.2, told_rem hw (by simpa using hrem), List.append_nil]
        exact DatIn.list List.mem_cons_self (DatAll.mono (fun p hp => List.mem_cons_of_mem _ hp) hDt)
      · (with_reducible rename (Txt.upper _ == Str.ofString "REM") = _ => hrem); (with_reducible rename (Txt.upper _ == Str.ofString "DATA") = _ => hdat); (with_reducible rename Fr _ _ _ _ => F2); (with_reducible rename News _ _ _ _ => N2)
        rw [beq_codes, hWd, c_REM] at hrem
        rw [beq_codes, hWd, c_DATA] at hdat
        refine Stop.mk ?_
        refine Says.useD (data_end_says w mean mg mb x t (runEnd isWord (codes x) a) _ (by omega) hx) G F2 N2 rfl rfl (by omega) (by omega) ?_
        rintro r own h₅ tk₅ F5 N5 - - - ⟨rfl, u₅, rfl⟩
        (try clear F2); (try clear N2); (try clear F4); (try clear N4)
        dsimp only [List.nil_append] at N5
        k_steps
        (with_reducible rename Fr _ _ _ _ => F2); (with_reducible rename News _ _ _ _ => N2)
        refine Stop.mk ?_
        refine in_tuple_strs (tupK (X.keeps F2.keep) (by k_is)) (strs_lead _ _ _ _ _ _ _) ?_
        have hdat' : wordOf (codes x) a (runEnd isWord (codes x) a) = wDATA := by simpa using hdat
        have hd1 := dataEnd_ge (cs := codes x) (i := runEnd isWord (codes x) a) (by omega)
        have hl : wLEAD.contains (wordOf (codes x) a (runEnd isWord (codes x) a)) = false := by rw [hdat']; decide
        rw [lead_any, hWd, hl]
        k_steps
        (with_reducible rename Fr _ _ _ _ => F2); (with_reducible rename News _ _ _ _ => N2)
        refine hPost .next _ (ksw_end (TS.mk (dataEnd (codes x) (runEnd isWord (codes x) a)) (Txt.upper (Txt.slice x (some (a : Int)) (some (runEnd isWord (codes x) a : Int)))) k _ _ n ws tl done) F2 N2 (fun p hp => by dsimp only at hp; first | exact hp | exact List.mem_cons_of_mem _ hp) ⟨hDt, hoff⟩ (by ((repeat (refine List.forall_mem_cons.mpr ⟨rfl, ?_⟩)); exact fun _ h => nomatch h)) (by (repeat (first | exact same_kst rfl | refine same_put (by first | exact Or.inl (by decide) | exact Or.inr (by simp)) ?_))) ⟨by dsimp only; omega, by dsimp only; omega, by dsimp only; omega, ?_⟩ (Nat.sub_lt_sub_left hlt' (Nat.lt_of_lt_of_le hege hd1.1)))
        dsimp only
        rw [hP.2.2.2, told_word (by omega) hw (by simpa using hrem) hl, if_pos hdat', hWd]
      · (with_reducible rename (Txt.upper _ == Str.ofString "REM") = _ => hrem); (with_reducible rename (Txt.upper _ == Str.ofString "DATA") = _ => hdat); (with_reducible rename Fr _ _ _ _ => F2); (with_reducible rename News _ _ _ _ => N2)
        rw [beq_codes, hWd, c_REM] at hrem
        rw [beq_codes, hWd, c_DATA] at hdat
        refine Stop.mk ?_
        refine in_tuple_strs (tupK (X.keeps F2.keep) (by k_is)) (strs_lead _ _ _ _ _ _ _) ?_
        rw [lead_any, hWd]
        cases hl : wLEAD.contains (wordOf (codes x) a (runEnd isWord (codes x) a)) with
        | false =>
          k_steps
          (with_reducible rename Fr _ _ _ _ => F2); (with_reducible rename News _ _ _ _ => N2)
          refine hPost .next _ (ksw_end (TS.mk (runEnd isWord (codes x) a) (Txt.upper (Txt.slice x (some (a : Int)) (some (runEnd isWord (codes x) a : Int)))) k _ _ n ws tl done) F2 N2 (fun p hp => by dsimp only at hp; first | exact hp | exact List.mem_cons_of_mem _ hp) ⟨hDt, hoff⟩ (by ((repeat (refine List.forall_mem_cons.mpr ⟨rfl, ?_⟩)); exact fun _ h => nomatch h)) (by (repeat (first | exact same_kst rfl | refine same_put (by first | exact Or.inl (by decide) | exact Or.inr (by simp)) ?_))) ⟨by dsimp only; omega, by dsimp only; omega, by dsimp only; omega, ?_⟩ (Nat.sub_lt_sub_left hlt' (hege)))
          dsimp only
          rw [hP.2.2.2, told_word (by omega) hw (by simpa using hrem) hl, if_neg (by simpa using hdat), hWd]
        | true =>
          k_steps
          (with_reducible rename Fr _ _ _ _ => F2); (with_reducible rename News _ _ _ _ => N2); (with_reducible rename _ ∧ AllLt _ _ => hl1)
          rename_i sA _ _
          have hl2 := kst_ltOf hl1.2
          have hb0 := runEnd_ge (p := blank) (cs := codes x) (i := runEnd isWord (codes x) a) (by omega)
          have hb1 := runEnd_len (p := blank) (cs := codes x) (i := runEnd isWord (codes x) a) (by omega)
          have hgl := gather_len (cs := codes x) (b := runEnd blank (codes x) (runEnd isWord (codes x) a)) (a := runEnd isWord (codes x) a) rfl hb0 hb1
          refine Stop.mk ?_
          refine Says.useDM (gather_spots_says w mean mg mb x t (runEnd isWord (codes x) a) _ _ 0 (by omega) hx) G F2 N2 (List.forall_mem_cons.mpr ⟨List.forall_mem_cons.mpr ⟨Nat.ne_of_gt hl1.1, fun q hq => Nat.ne_of_gt (hl2 q hq)⟩, fun _ h => nomatch h⟩) rfl rfl (by omega) (by omega) ?_
          rintro r news₅ h₅ tk₅ F5 N5 hoff5 kept5 newer5 ⟨ws2, n2, tl2, u₅, rfl, hoffl, hD2, rfl⟩
          simp only [List.cons_append] at N5
          have N6 := news_sub N5 mid_front
          have hap : ∀ p ∈ tl2 ++ tl, p.1 ≠ l := fun p hp => by
            rcases List.mem_append.mp hp with hp | hp
            · exact hoff5 p (List.mem_cons_of_mem _ hp) _ List.mem_cons_self
            · exact hoff p hp
          have hap2 := (List.forall_mem_cons (p := fun q : Addr × Obj => q.1 ≠ l)).mpr ⟨hoff5 _ List.mem_cons_self _ List.mem_cons_self, hap⟩
          (try clear F2); (try clear N2); clear N5
          k_steps
          (with_reducible rename Fr _ _ _ _ => F2); (with_reducible rename News _ _ _ _ => N2)
          refine Stop.mk ?_
          refine execs_join (IJ g L x (Txt.upper (Txt.slice x (some (a : Int)) (some (runEnd isWord (codes x) a : Int)))) ah t ta th u₅ l sA a (runEnd isWord (codes x) a) (gather (codes x) (runEnd blank (codes x) (runEnd isWord (codes x) a)) (runEnd isWord (codes x) a)).2 ((l, listOf ws.toArray n) :: (sA, listOf ws2.toArray n2) :: (tl2 ++ tl)) M₀ GS₀ DR₀ OS₀) ?_ ?_
          · intro J hJ
            clear hPost hret hP hDt hD2
            k_steps
            · (with_reducible rename (Txt.upper _ == Str.ofString "RESUME") = _ => hres)
              have hres0 := hres
              rw [beq_codes, hWd, c_RESUME] at hres
              (with_reducible rename Fr _ _ _ _ => F9); (with_reducible rename News _ _ _ _ => N9)
              exact hJ _ ⟨_, _, _, _, _, rfl, F9, N9, rfl, rfl, rfl, rfl, rfl, rfl, iff_of_true hres0 (.inl (by simpa using hres)), by (repeat (first | exact same_kst rfl | refine same_put (by first | exact Or.inl (by decide) | exact Or.inr (by simp)) ?_))⟩
            all_goals (
              (with_reducible rename (Txt.upper _ == Str.ofString "RESUME") = _ => hres); (with_reducible rename (Txt.upper _ == Str.ofString "GOTO") = _ => hgo)
              have hgo0 := hgo
              rw [beq_codes, hWd, c_RESUME] at hres
              rw [beq_codes, hWd, c_GOTO] at hgo
              (with_reducible rename Fr _ _ _ _ => F9); (with_reducible rename News _ _ _ _ => N9)
              have hr : wordOf (codes x) a (runEnd isWord (codes x) a) ≠ wRESUME := by simpa using hres
              first
              | exact hJ _ ⟨_, _, _, _, _, rfl, F9, N9, rfl, rfl, rfl, rfl, rfl, rfl, by
                  have hg : wordOf (codes x) a (runEnd isWord (codes x) a) ≠ wGOTO := by simpa using hgo
                  rw [hgo0]
                  exact iff_of_false Bool.false_ne_true (fun h => h.elim hr (fun q => hg q.1)), by (repeat (first | exact same_kst rfl | refine same_put (by first | exact Or.inl (by decide) | exact Or.inr (by simp)) ?_))⟩
              | exact hJ _ ⟨_, _, _, _, _, rfl, F9, N9, rfl, rfl, rfl, rfl, rfl, rfl, by
                  have hg : wordOf (codes x) a (runEnd isWord (codes x) a) = wGOTO := by simpa using hgo
                  rw [beq_codes, c_ERROR, beq_iff_eq]
                  exact ⟨fun h => .inr ⟨hg, h⟩, fun h => h.elim (fun q => absurd q hr) (fun q => q.2)⟩, by (repeat (first | exact same_kst rfl | refine same_put (by first | exact Or.inl (by decide) | exact Or.inr (by simp)) ?_))⟩)
          · rintro s' ⟨h₈, tk₈, m₈, tw, b, rfl, F8, N8, e1, e2, e3, e4, e5, e6, hb, hsame⟩
            (try clear F2); (try clear N2)
            replace F8 := kst_of F8 [(Str.ofString "text", .str x t), (Str.ofString "found", .ref l), (Str.ofString "at", .int _ u₅), (Str.ofString "word", .str _ tw), (Str.ofString "some", .ref sA), (Str.ofString "is_none", .bool b)]
              (List.forall_mem_cons.mpr ⟨e1, List.forall_mem_cons.mpr ⟨e2, List.forall_mem_cons.mpr ⟨e3, List.forall_mem_cons.mpr ⟨e4, List.forall_mem_cons.mpr ⟨e5, List.forall_mem_cons.mpr ⟨e6, fun _ h => nomatch h⟩⟩⟩⟩⟩⟩)
            clear e1 e2 e3 e4 e5 e6
            cases b with
            | true =>
              k_steps
              (with_reducible rename Fr _ _ _ _ => F9); (with_reducible rename News _ _ _ _ => N9)
              refine Stop.mk ?_
              refine Says.useDM (without_noughts_says w mean mg mb x t _ ws2 n2 tl2 _ hD2 (gather_ok rfl hb1) (by omega) hx) G F9 (news_sub N9 mid_back) hoff5 rfl rfl (by omega) (by omega) ?_
              rintro r news₆ h₆ tk₆ F10 N10 hoff6 - - ⟨-, hD5⟩
              (try clear F9); (try clear N9)
              cases hD5 with
              | @list a₆ vs₆ n₆ _ hm6 hD6 =>
                have N11 := news_sub (b := (l, listOf ws.toArray n) :: (news₆ ++ tl)) N10 (fun p hp => by simp only [List.mem_cons, List.mem_append] at hp ⊢; rcases hp with h | h | h <;> simp only [h, true_or, or_true])
                have hap6 : ∀ p ∈ news₆ ++ tl, p.1 ≠ l := fun p hp => by
                  rcases List.mem_append.mp hp with hp | hp
                  · exact hoff6 p hp _ List.mem_cons_self
                  · exact hoff p hp
                (try clear N10)
                k_steps
                (with_reducible rename Fr _ _ _ _ => F9); (with_reducible rename News _ _ _ _ => N9)
                refine Stop.mk ?_
                have hws : ws.length ≤ 10000 := by rw [hDt.length, List.length_map]; omega
                have hspl : ((gather (codes x) (runEnd blank (codes x) (runEnd isWord (codes x) a)) (runEnd isWord (codes x) a)).1.filter (fun p => numAt (codes x) p != 0)).length ≤ (gather (codes x) (runEnd blank (codes x) (runEnd isWord (codes x) a)) (runEnd isWord (codes x) a)).1.length := List.length_filter_le _ _
                have hDv : DatAll (news₆ ++ tl) vs₆ (((gather (codes x) (runEnd blank (codes x) (runEnd isWord (codes x) a)) (runEnd isWord (codes x) a)).1.filter (fun p => numAt (codes x) p != 0)).map spotD) := DatAll.mono (fun p hp => List.mem_append.mpr (.inl hp)) hD6
                have hvs : vs₆.length ≤ 10000 := by rw [hDv.length, List.length_map]; omega
                refine extend_in (own := []) F9 N9 (fun _ h => nomatch h) hap6 (N9 _ (List.mem_cons_of_mem _ (List.mem_append.mpr (.inl hm6)))).1 ?_ (by rw [List.size_toArray]; exact Nat.le_trans (Nat.add_le_add hws hvs) (by decide))
                intro h₉ n₉ F10 N10
                (try clear F9); (try clear N9)
                k_steps
                (with_reducible rename Fr _ _ _ _ => F11); (with_reducible rename News _ _ _ _ => N11)
                refine hPost .next _ (ksw_end (TS.mk (gather (codes x) (runEnd blank (codes x) (runEnd isWord (codes x) a)) (runEnd isWord (codes x) a)).2 (Txt.upper (Txt.slice x (some (a : Int)) (some (runEnd isWord (codes x) a : Int)))) k _ _ n₉ (ws ++ vs₆) (news₆ ++ tl) (done ++ ((gather (codes x) (runEnd blank (codes x) (runEnd isWord (codes x) a)) (runEnd isWord (codes x) a)).1.filter (fun p => numAt (codes x) p != 0)))) F11 N11 (fun p hp => hp) ⟨by rw [List.map_append]; exact DatAll.append (DatAll.mono (fun p hp => List.mem_append.mpr (.inr hp)) hDt) hDv, hap6⟩ (by ((repeat (refine List.forall_mem_cons.mpr ⟨rfl, ?_⟩)); exact fun _ h => nomatch h)) (same_put (.inr (by simp)) (same_kstJ (by simp) (same_names (by exact rfl) hsame))) ⟨by dsimp only; omega, by dsimp only; rw [List.length_append]; omega, by dsimp only; omega, ?_⟩ (Nat.sub_lt_sub_left hlt' (Nat.lt_of_lt_of_le hege (Nat.le_trans (Nat.le_add_right _ _) hgl.1))))
                dsimp only
                rw [hP.2.2.2, told_lead (by omega) hw (by simpa using hrem) hl, if_pos (hb.mp rfl), hWd, List.append_assoc]
            | false =>
              k_steps
              (with_reducible rename Fr _ _ _ _ => F9); (with_reducible rename News _ _ _ _ => N9)
              refine Stop.mk ?_
              have hws : ws.length ≤ 10000 := by rw [hDt.length, List.length_map]; omega
              have hspl : (gather (codes x) (runEnd blank (codes x) (runEnd isWord (codes x) a)) (runEnd isWord (codes x) a)).1.length ≤ (gather (codes x) (runEnd blank (codes x) (runEnd isWord (codes x) a)) (runEnd isWord (codes x) a)).1.length := Nat.le_refl _
              have hDv : DatAll (tl2 ++ tl) ws2 ((gather (codes x) (runEnd blank (codes x) (runEnd isWord (codes x) a)) (runEnd isWord (codes x) a)).1.map spotD) := DatAll.mono (fun p hp => List.mem_append.mpr (.inl hp)) hD2
              have hvs : ws2.length ≤ 10000 := by rw [hDv.length, List.length_map]; omega
              refine extend_in (own := []) F9 N9 (fun _ h => nomatch h) hap2 (N9 _ (List.mem_cons_of_mem _ List.mem_cons_self)).1 ?_ (by rw [List.size_toArray]; exact Nat.le_trans (Nat.add_le_add hws hvs) (by decide))
              intro h₉ n₉ F10 N10
              (try clear F9); (try clear N9)
              k_steps
              (with_reducible rename Fr _ _ _ _ => F11); (with_reducible rename News _ _ _ _ => N11)
              refine hPost .next _ (ksw_end (TS.mk (gather (codes x) (runEnd blank (codes x) (runEnd isWord (codes x) a)) (runEnd isWord (codes x) a)).2 (Txt.upper (Txt.slice x (some (a : Int)) (some (runEnd isWord (codes x) a : Int)))) k _ _ n₉ (ws ++ ws2) (tl2 ++ tl) (done ++ (gather (codes x) (runEnd blank (codes x) (runEnd isWord (codes x) a)) (runEnd isWord (codes x) a)).1)) F11 N11 (fun p hp => by simp only [List.mem_cons, List.mem_append, List.nil_append] at hp ⊢; rcases hp with h | h | h <;> simp only [h, true_or, or_true]) ⟨by rw [List.map_append]; exact DatAll.append (DatAll.mono (fun p hp => List.mem_append.mpr (.inr hp)) hDt) hDv, hap⟩ (by ((repeat (refine List.forall_mem_cons.mpr ⟨rfl, ?_⟩)); exact fun _ h => nomatch h)) (same_put (.inr (by simp)) (same_kstJ (by simp) (same_names (by exact rfl) hsame))) ⟨by dsimp only; omega, by dsimp only; rw [List.length_append]; omega, by dsimp only; omega, ?_⟩ (Nat.sub_lt_sub_left hlt' (Nat.lt_of_lt_of_le hege (Nat.le_trans (Nat.le_add_right _ _) hgl.1))))
              dsimp only
              rw [hP.2.2.2, told_lead (by omega) hw (by simpa using hrem) hl, if_neg (fun q => Bool.false_ne_true (hb.mpr q)), hWd, List.append_assoc]
    · (with_reducible rename isWord _ = _ => hw); (with_reducible rename (Txt.item _ _ == _) = _ => hc3); (with_reducible rename Fr _ _ _ _ => F2); (with_reducible rename News _ _ _ _ => N2)
      rw [item_one hlt', sp_str, one_eq] at hc3
      refine hPost .next _ (ksw_end (TS.mk (a + 1) ah k _ _ n ws tl done) F2 N2 (fun p hp => by dsimp only at hp; first | exact hp | exact List.mem_cons_of_mem _ hp) ⟨hDt, hoff⟩ (by ((repeat (refine List.forall_mem_cons.mpr ⟨rfl, ?_⟩)); exact fun _ h => nomatch h)) (by (repeat (first | exact same_kst rfl | refine same_put (by first | exact Or.inl (by decide) | exact Or.inr (by simp)) ?_))) ⟨by dsimp only; omega, by dsimp only; omega, by dsimp only; omega, ?_⟩ (Nat.sub_lt_sub_left hlt' (Nat.lt_succ_self _)))
      dsimp only
      rw [hP.2.2.2, told_sign (by omega) (by simpa using hc1) (by simpa using hc2) hw, if_pos (by simpa using hc3)]
    · (with_reducible rename isWord _ = _ => hw); (with_reducible rename (Txt.item _ _ == _) = _ => hc3); (with_reducible rename Fr _ _ _ _ => F2); (with_reducible rename News _ _ _ _ => N2)
      rw [item_one hlt', sp_str, one_eq] at hc3
      refine hPost .next _ (ksw_end (TS.mk (a + 1) (Str.ofString "") k _ _ n ws tl done) F2 N2 (fun p hp => by dsimp only at hp; first | exact hp | exact List.mem_cons_of_mem _ hp) ⟨hDt, hoff⟩ (by ((repeat (refine List.forall_mem_cons.mpr ⟨rfl, ?_⟩)); exact fun _ h => nomatch h)) (by (repeat (first | exact same_kst rfl | refine same_put (by first | exact Or.inl (by decide) | exact Or.inr (by simp)) ?_))) ⟨by dsimp only; omega, by dsimp only; omega, by dsimp only; omega, ?_⟩ (Nat.sub_lt_sub_left hlt' (Nat.lt_succ_self _)))
      dsimp only
      rw [hP.2.2.2, told_sign (by omega) (by simpa using hc1) (by simpa using hc2) hw, if_neg (by simpa using hc3), codes_empty]
  · (with_reducible rename ¬ (a : Int) < _ => hlt)
    refine hret (.ref l) _ _ _ (over_of F1 N1) ?_
    rw [hP.2.2.2, told_end (by omega), List.append_nil]
    exact DatIn.list List.mem_cons_self (DatAll.mono (fun p hp => List.mem_cons_of_mem _ hp) hDt)

end

end

section
theorem perm5 {α : Type} {d i l : α} {t : List α} : ∀ q ∈ i :: l :: d :: t, q ∈ d :: i :: l :: t := by
  intro q hq
  rcases List.mem_cons.mp hq with h | hq
  · exact List.mem_cons_of_mem _ (List.mem_cons.mpr (.inl h))
  · rcases List.mem_cons.mp hq with h | hq
    · exact List.mem_cons_of_mem _ (List.mem_cons_of_mem _ (List.mem_cons.mpr (.inl h)))
    · rcases List.mem_cons.mp hq with h | hq
      · exact List.mem_cons.mpr (.inl h)
      · exact List.mem_cons_of_mem _ (List.mem_cons_of_mem _ (List.mem_cons_of_mem _ hq))
theorem stop_ifs {M : Model} {A : Around} {E : Value → Shared → Prop} {s : Shared} {env : Env} {c : Expr} {b o : List Stmt} {p : Pos} {Q : Flow → Shared → Prop} (h : Stop (wpAny M A (execs [.If c b o p] env) Q E s)) : wpAny M A (execs [.If c b o p] env) Q E s := h.out
/-- an if whose other part is walked once, however the test comes to its no -/
theorem if_once {prog : Program} {w : World} {A : Around} {E : Value → Shared → Prop} {env : Env} {c : Expr} {b o : List Stmt} {pos : Pos} {Q : Flow → Shared → Prop} {g : Heap} {L : Addr} {GS : Array GenState} {DR : Drawn} {OS : OsState} {h : Heap} {tk : Nat} {M : Str → Option Value} {ps : List (Str × Value)} {nx : List (Addr × Obj)}
    (P : Prop) (_F : Fr g L h (kstB M ps)) (_N : News g L h nx)
    (h1 : ∀ Jf : Shared → Prop, (∀ h' tk' M', Fr g L h' (kstB M' ps) → News g L h' nx → P → Jf { heap := h', gens := GS, drawn := DR, toks := tk', os := OS }) →
      wpAny (model prog w) A (isTrue c env (eval c env)) (fun r s' => if r = true then wpAny (model prog w) A (execs b env) Q E s' else Jf s') E { heap := h, gens := GS, drawn := DR, toks := tk, os := OS })
    (h2 : ∀ h' tk' M', Fr g L h' (kstB M' ps) → News g L h' nx → P → wpAny (model prog w) A (execs o env) Q E { heap := h', gens := GS, drawn := DR, toks := tk', os := OS }) :
    wpAny (model prog w) A (execs [.If c b o pos] env) Q E { heap := h, gens := GS, drawn := DR, toks := tk, os := OS } := execs_one (wpAny_If (h1 _ h2))
local macro_rules
  | `(tactic| walk_at $s) => let k := s.getString; if k == "execs cons" then `(tactic| with_reducible refine stop_ifs ?_) else Lean.Macro.throwUnsupported
/-- what holds of the reader's loop before turn i -/
noncomputable def SpJ (x : Str) (t : Tok) (sp R : List (Nat × Nat)) (l : Addr) (own : List (Addr × Obj)) (i : Nat) (m : Str → Option Value) (nx : List (Addr × Obj)) : Prop :=
  ∃ (mo : Mood) (tm : Tok) (ws : List Value) (n' : Nat) (tl : List (Addr × Obj)) (done : List (Nat × Nat)), nx = (l, listOf ws.toArray n') :: (tl ++ own) ∧ m (Str.ofString "text") = some (.str x t) ∧ m (Str.ofString "found") = some (.ref l) ∧ m (Str.ofString "mood") = some (.str (moodStr mo) tm) ∧
      DatAll tl ws (done.map spotD) ∧ (∀ p ∈ tl ++ own, p.1 ≠ l) ∧ done.length ≤ i ∧ done ++ lawSpots (codes x) (sp.drop i) mo = R
theorem SpJ.mk {x : Str} {t : Tok} {sp R : List (Nat × Nat)} {l : Addr} {own : List (Addr × Obj)} {i : Nat} {m : Str → Option Value} {nx : List (Addr × Obj)} (mo : Mood) (tm : Tok) (ws : List Value) (n' : Nat) (tl : List (Addr × Obj)) (done : List (Nat × Nat))
    (h1 : nx = (l, listOf ws.toArray n') :: (tl ++ own)) (h2 : m (Str.ofString "text") = some (.str x t)) (h3 : m (Str.ofString "found") = some (.ref l)) (h4 : m (Str.ofString "mood") = some (.str (moodStr mo) tm))
    (h5 : DatAll tl ws (done.map spotD)) (h6 : ∀ p ∈ tl ++ own, p.1 ≠ l) (h7 : done.length ≤ i) (h8 : done ++ lawSpots (codes x) (sp.drop i) mo = R) : SpJ x t sp R l own i m nx := ⟨mo, tm, ws, n', tl, done, h1, h2, h3, h4, h5, h6, h7, h8⟩
theorem law_spots_says (w : World) (mean : ExcName → Option Value) (mg mb : Str → Option Value) (x : Str) (t : Tok) (hx : x.length ≤ 1000) :
    Says w mean mg mb 124 3 [] [.str x t] (fun r n => DatIn n r (Dat.list ((lawSpots (codes x) (lawWords (codes x) (x.length + 1) 0) .out).map spotD))) := by
  intro dp un gd base fr g s Q E G O hd hu hret
  obtain ⟨H₀, GS₀, DR₀, TK₀, OS₀⟩ := s
  dsimp only at O hret ⊢
  have ⟨B, X, T⟩ := G
  have hxl := codes_len x
  have hsp := law_words_says w mean mg mb x
  have hok : ∀ p ∈ lawWords (codes x) (x.length + 1) 0, p.1 < (codes x).length ∧ p.2 = lawEnd (codes x) p.1 := lawWords_ok
  have hsl : (lawWords (codes x) (x.length + 1) 0).length ≤ x.length := by have := lawWords_len (cs := codes x) (k := x.length + 1) (a := 0) (Nat.zero_le _); omega
  obtain ⟨sp, hg_sp⟩ : ∃ y, lawWords (codes x) (x.length + 1) 0 = y := ⟨_, rfl⟩
  rw [hg_sp] at hret hok hsp hsl
  obtain ⟨R, hR⟩ : ∃ y, lawSpots (codes x) sp .out = y := ⟨_, rfl⟩
  rw [hR] at hret
  (refine wpAny_call ?_; k_dflt (refine' enter_plain ?k1 ?k3 ?k5 ?k6 ?k7 ?k8 ?k9 ?kB ?_ ?c2 ?c3 ?c4 ?c5; (case k1 => assumption); (case k3 => assumption); (case k5 => assumption); (case k6 => k_is); (case k7 => k_is); (case k8 => exact room_of (by assumption)); (case k9 => exact BindsTo.of_eq rfl); (case kB => exact locs rfl); (case c2 => exact rfl); (case c3 => exact rfl); (case c4 => exact rfl); (case c5 => decide); intro _ _ _ _ _; (try dsimp only); (try k_fold)))
  (with_reducible rename Fr _ _ _ _ => F'); (with_reducible rename News _ _ _ _ => N')
  k_steps
  rename_i l _ _ D _ hlD _ _ _ F' N'
  replace N' := news_sub (b := [(l, _)]) N' (fun p hp => List.mem_cons_of_mem _ hp)
  refine Stop.mk ?_
  refine for_tuples (h₀ := g) (xs := [(Str.ofString "kind", _), (Str.ofString "begin", _), (Str.ofString "end", _)]) rfl (List.forall_mem_cons.mpr ⟨rfl, List.forall_mem_cons.mpr ⟨rfl, List.forall_mem_cons.mpr ⟨rfl, fun _ h => nomatch h⟩⟩⟩) rfl ?_
  k_steps
  refine Stop.mk ?_
  refine Says.useD (hsp _ hx) G F' N' rfl rfl (by omega) (by omega) ?_
  rintro r own h₂ tk₂ F2 N2 hoff2 - - hD
  replace N2 := news_sub (b := _ :: own) N2 (fun p hp => List.mem_append.mpr ((List.mem_cons.mp hp).symm.imp _root_.id (fun e => List.mem_singleton.mpr e)))
  cases hD with
  | @list a vs n _ hm hD =>
    k_steps
    refine ⟨a, vs.toArray, n, _, _, SpJ x t sp R l own, rfl, rfl, F2, N2, ?_, SpJ.mk .out _ [] _ [] [] rfl rfl rfl rfl DatAll.nil ?_ (Nat.zero_le _) hR, ?_, ?_⟩
    · rintro i m nx ⟨mo, tm, ws, n', tl, done, rfl, -⟩
      exact List.mem_cons_of_mem _ (List.mem_append_right _ hm)
    · exact fun p hp => hoff2 p hp _ List.mem_cons_self
    · rintro i v m₁ nx I oI h tk hv ⟨mo, tm, ws, n', tl, done, rfl, hm1, hm2, hm3, hDt, hoff, hdl, hR1⟩
      obtain ⟨p, hp, a₂, ts, tb, te, nn, rfl, hm5⟩ := triple_at hD (i := i) (v := v) (by simpa using hv)
      obtain ⟨hp1, hp2⟩ := hok p (List.mem_of_getElem? hp)
      have hp3 := lawEnd_gt hp1
      rw [← hp2] at hp3
      rw [drop_at hp] at hR1
      refine ⟨a₂, [.str (kindStr ((codes x).getD p.1 0)) ts, .int p.1 tb, .int p.2 te], nn, rfl, List.mem_cons_of_mem _ (List.mem_append_right _ hm5), rfl, fun F3 N3 off Post hPost => ?_⟩
      replace F3 := kst_of F3 [(Str.ofString "text", .str x t), (Str.ofString "found", .ref l), (Str.ofString "mood", .str (moodStr mo) tm), (Str.ofString "kind", .str (kindStr ((codes x).getD p.1 0)) ts), (Str.ofString "begin", .int p.1 tb), (Str.ofString "end", .int p.2 te)]
        (List.forall_mem_cons.mpr ⟨hm1, List.forall_mem_cons.mpr ⟨hm2, List.forall_mem_cons.mpr ⟨hm3, List.forall_mem_cons.mpr ⟨rfl, List.forall_mem_cons.mpr ⟨rfl, List.forall_mem_cons.mpr ⟨rfl, fun _ h => nomatch h⟩⟩⟩⟩⟩⟩)
      have hi : i ≤ 1000 := by
        obtain ⟨h9, -⟩ := List.getElem?_eq_some_iff.mp hp
        omega
      k_steps
      refine Stop.mk ?_
      (with_reducible rename Fr _ _ _ _ => F4); (with_reducible rename News _ _ _ _ => N4)
      obtain ⟨M1, F5⟩ := fr_letter F4 [(Str.ofString "text", .str x t), (Str.ofString "found", .ref l), (Str.ofString "mood", .str (moodStr mo) tm), (Str.ofString "kind", .str (kindStr ((codes x).getD p.1 0)) ts), (Str.ofString "begin", .int p.1 tb), (Str.ofString "end", .int p.2 te), (Str.ofString "word", .str (Txt.upper (Txt.slice x (some (p.1 : Int)) (some (p.2 : Int)))) _)]
        (List.forall_mem_cons.mpr ⟨rfl, List.forall_mem_cons.mpr ⟨rfl, List.forall_mem_cons.mpr ⟨rfl, List.forall_mem_cons.mpr ⟨rfl, List.forall_mem_cons.mpr ⟨rfl, List.forall_mem_cons.mpr ⟨rfl, List.forall_mem_cons.mpr ⟨rfl, fun _ h => nomatch h⟩⟩⟩⟩⟩⟩⟩)
      (try clear F4); (try clear F3); (try clear N3)
      refine execs_one (wpAny_If ?_)
      k_steps
      · rw [sp_data1 (cs := codes x) (p := p) (r := sp.drop (i + 1)) (m := mo) (by with_reducible assumption) (by with_reducible assumption)] at hR1
        (with_reducible rename Fr _ _ _ _ => F4); (with_reducible rename News _ _ _ _ => N4)
        exact hPost .next _ (turn_next F4 (news_sub N4 (fun p hp => by first | exact hp | exact List.mem_cons_of_mem _ hp)) (off) (SpJ.mk .out _ ws n' (tl) (done) rfl rfl rfl rfl (hDt) (hoff) (by omega) (hR1)))
      · rw [sp_data0 (cs := codes x) (p := p) (r := sp.drop (i + 1)) (m := mo) (by with_reducible assumption) (by with_reducible assumption)] at hR1
        (with_reducible rename Fr _ _ _ _ => F4); (with_reducible rename News _ _ _ _ => N4)
        exact hPost .next _ (turn_next F4 (news_sub N4 (fun p hp => by first | exact hp | exact List.mem_cons_of_mem _ hp)) (off) (SpJ.mk .data _ ws n' (tl) (done) rfl rfl rfl rfl (hDt) (hoff) (by omega) (hR1)))
      · refine Stop.mk ?_
        (with_reducible rename Fr _ _ _ _ => F4); (with_reducible rename News _ _ _ _ => N4)
        refine if_once ((kindStr ((codes x).getD p.1 0) == Str.ofString "'") = false ∧ ((Txt.upper (Txt.slice x (some (p.1 : Int)) (some (p.2 : Int))) == Str.ofString "REM") = false ∨ (kindStr ((codes x).getD p.1 0) == Str.ofString "word") = false)) F4 N4 (fun Jf hJf => ?_) ?_
        · k_steps
          · rw [sp_apo (cs := codes x) (p := p) (r := sp.drop (i + 1)) (m := mo) (by with_reducible assumption) (by with_reducible assumption), List.append_nil] at hR1
            subst hR1
            (with_reducible rename Fr _ _ _ _ => F4); (with_reducible rename News _ _ _ _ => N4)
            exact hPost (.ret _) _ (hret (.ref l) _ _ _ (over_of F4 (news_sub N4 (fun p hp => List.mem_cons_of_mem _ hp))) (DatIn.list List.mem_cons_self (DatAll.mono (fun p hp => List.mem_cons_of_mem _ (List.mem_append_left _ hp)) hDt)))
          · have hw : isWord ((codes x).getD p.1 0) = true := by rw [← kind_word]; with_reducible assumption
            obtain ⟨hf1, hf2, hf3⟩ := word_facts hp1 hp2 hw
            (with_reducible rename (Txt.upper _ == Str.ofString "REM") = _ => hrem)
            rw [beq_codes, hf1, c_REM] at hrem
            rw [sp_rem (cs := codes x) (p := p) (r := sp.drop (i + 1)) (m := mo) (by with_reducible assumption) (by with_reducible assumption) (by with_reducible assumption) (by simpa using hrem), List.append_nil] at hR1
            subst hR1
            (with_reducible rename Fr _ _ _ _ => F4); (with_reducible rename News _ _ _ _ => N4)
            exact hPost (.ret _) _ (hret (.ref l) _ _ _ (over_of F4 (news_sub N4 (fun p hp => List.mem_cons_of_mem _ hp))) (DatIn.list List.mem_cons_self (DatAll.mono (fun p hp => List.mem_cons_of_mem _ (List.mem_append_left _ hp)) hDt)))
          · (with_reducible rename Fr _ _ _ _ => F4); (with_reducible rename News _ _ _ _ => N4)
            exact hJf _ _ _ F4 (by first | exact N4 | exact news_sub N4 (fun p hp => List.mem_cons_of_mem _ hp)) (⟨(by with_reducible assumption), .inr (by with_reducible assumption)⟩)
          · (with_reducible rename Fr _ _ _ _ => F4); (with_reducible rename News _ _ _ _ => N4)
            exact hJf _ _ _ F4 (by first | exact N4 | exact news_sub N4 (fun p hp => List.mem_cons_of_mem _ hp)) (⟨(by with_reducible assumption), .inl (by with_reducible assumption)⟩)
        · rintro h₄ tk₄ M2 F6 N6 ⟨hk1, hk2⟩
          (try clear F4); (try clear N4)
          k_steps
          refine Stop.mk ?_
          refine if_once ((kindStr ((codes x).getD p.1 0) == Str.ofString "word") = false ∨ ([Str.ofString "led", Str.ofString "taken up"].any fun x => x == moodStr mo) = false ∨ Txt.isdigit (Txt.upper (Txt.slice x (some (p.1 : Int)) (some (p.2 : Int)))) = false) F6 N6 (fun Jf hJf => ?_) ?_
          · k_steps
            · (with_reducible rename Txt.isdigit _ = _ => hdg)
              (with_reducible rename (kindStr _ == Str.ofString "word") = true => hkw)
              have hw : isWord ((codes x).getD p.1 0) = true := by rw [← kind_word]; exact hkw
              obtain ⟨hf1, hf2, hf3⟩ := word_facts hp1 hp2 hw
              have hrem := hk2.resolve_right (fun h => by rw [hkw] at h; cases h)
              rw [beq_codes, hf1, c_REM] at hrem
              rw [hf2] at hdg
              rw [sp_num (cs := codes x) (p := p) (r := sp.drop (i + 1)) (m := mo) (by with_reducible assumption) (by with_reducible assumption) (by with_reducible assumption) (by simpa using hrem) (by with_reducible assumption) hdg] at hR1
              (with_reducible rename (moodStr mo == Str.ofString "led") = _ => hled)
              have hled2 := hled
              rw [mood_led] at hled2
              have hled' : mo = .led := by simpa using hled2
              rw [if_pos (.inl hled'), if_pos hled', ← List.append_assoc] at hR1
              (with_reducible rename Fr _ _ _ _ => F4); (with_reducible rename News _ _ _ _ => N4); (with_reducible rename _ ∧ _ ∧ _ ∧ AllLt _ _ => hl1)
              have hws : ws.length ≤ 10000 := by rw [hDt.length, List.length_map]; omega
              refine Stop.mk ?_
              replace N4 := news_sub (b := _ :: (I, oI) :: (l, listOf ws.toArray n') :: (tl ++ own)) N4 (fun p hp => by rcases List.mem_cons.mp hp with h | h; exact List.mem_cons.mpr (.inl h); exact List.mem_cons_of_mem _ (List.mem_cons_of_mem _ h))
              refine append_K F4 N4 (Upd.tail (Nat.ne_of_gt hl1.2.2.1) (Upd.tail (off _ List.mem_cons_self).symm (Upd.head hoff))) ?_ (by rw [List.size_toArray]; exact Nat.le_trans hws (by decide))
              intro h₃ F5 N5
              rw [List.push_toArray] at N5
              have hD2 := fun D nn => spot_snoc hDt D p.1 p.2 tb te nn
              have hl3 := hl1.2.2.1
              have hl4 := hl1.2.1
              have hoff2 : ∀ (D : Addr) (o : Obj), l < D → ∀ p ∈ (D, o) :: (tl ++ own), p.1 ≠ l := fun D o h => List.forall_mem_cons.mpr ⟨Nat.ne_of_gt h, hoff⟩
              have offl : l ≠ I := off _ List.mem_cons_self
              have off2 : ∀ (D : Addr) (o o2 : Obj), I < D → ∀ p ∈ (l, o2) :: (D, o) :: (tl ++ own), p.1 ≠ I := fun D o o2 h => List.forall_mem_cons.mpr ⟨offl, List.forall_mem_cons.mpr ⟨Nat.ne_of_gt h, fun p hp => off p (List.mem_cons_of_mem _ hp)⟩⟩
              (try clear F4); (try clear N4)
              k_steps
              (with_reducible rename Fr _ _ _ _ => F4); (with_reducible rename News _ _ _ _ => N4)
              exact hPost .next _ (turn_next F4 (news_sub (b := (I, oI) :: (l, _) :: _ :: (tl ++ own)) N4 perm5) (off2 _ _ _ hl4) (SpJ.mk .told _ _ _ (_ :: tl) (done ++ [p]) rfl rfl rfl rfl (hD2 _ _) (hoff2 _ _ hl3) (by rw [List.length_append, List.length_singleton]; omega) (hR1)))
            · (with_reducible rename Txt.isdigit _ = _ => hdg)
              (with_reducible rename (kindStr _ == Str.ofString "word") = true => hkw)
              have hw : isWord ((codes x).getD p.1 0) = true := by rw [← kind_word]; exact hkw
              obtain ⟨hf1, hf2, hf3⟩ := word_facts hp1 hp2 hw
              have hrem := hk2.resolve_right (fun h => by rw [hkw] at h; cases h)
              rw [beq_codes, hf1, c_REM] at hrem
              rw [hf2] at hdg
              rw [sp_num (cs := codes x) (p := p) (r := sp.drop (i + 1)) (m := mo) (by with_reducible assumption) (by with_reducible assumption) (by with_reducible assumption) (by simpa using hrem) (by with_reducible assumption) hdg] at hR1
              (with_reducible rename (moodStr mo == Str.ofString "led") = _ => hled)
              have hled2 := hled
              rw [mood_led] at hled2
              have hled' : ¬ mo = .led := by simpa using hled2
              (with_reducible rename (Txt.stripChars _ _ != Str.ofString "") = _ => hst)
              rw [hf3 hdg, decide_eq_true_eq] at hst
              rw [if_pos (.inr hst), if_neg hled', ← List.append_assoc] at hR1
              (with_reducible rename Fr _ _ _ _ => F4); (with_reducible rename News _ _ _ _ => N4); (with_reducible rename _ ∧ _ ∧ _ ∧ AllLt _ _ => hl1)
              have hws : ws.length ≤ 10000 := by rw [hDt.length, List.length_map]; omega
              refine Stop.mk ?_
              replace N4 := news_sub (b := _ :: (I, oI) :: (l, listOf ws.toArray n') :: (tl ++ own)) N4 (fun p hp => by rcases List.mem_cons.mp hp with h | h; exact List.mem_cons.mpr (.inl h); exact List.mem_cons_of_mem _ (List.mem_cons_of_mem _ h))
              refine append_K F4 N4 (Upd.tail (Nat.ne_of_gt hl1.2.2.1) (Upd.tail (off _ List.mem_cons_self).symm (Upd.head hoff))) ?_ (by rw [List.size_toArray]; exact Nat.le_trans hws (by decide))
              intro h₃ F5 N5
              rw [List.push_toArray] at N5
              have hD2 := fun D nn => spot_snoc hDt D p.1 p.2 tb te nn
              have hl3 := hl1.2.2.1
              have hl4 := hl1.2.1
              have hoff2 : ∀ (D : Addr) (o : Obj), l < D → ∀ p ∈ (D, o) :: (tl ++ own), p.1 ≠ l := fun D o h => List.forall_mem_cons.mpr ⟨Nat.ne_of_gt h, hoff⟩
              have offl : l ≠ I := off _ List.mem_cons_self
              have off2 : ∀ (D : Addr) (o o2 : Obj), I < D → ∀ p ∈ (l, o2) :: (D, o) :: (tl ++ own), p.1 ≠ I := fun D o o2 h => List.forall_mem_cons.mpr ⟨offl, List.forall_mem_cons.mpr ⟨Nat.ne_of_gt h, fun p hp => off p (List.mem_cons_of_mem _ hp)⟩⟩
              (try clear F4); (try clear N4)
              k_steps
              (with_reducible rename Fr _ _ _ _ => F4); (with_reducible rename News _ _ _ _ => N4)
              exact hPost .next _ (turn_next F4 (news_sub (b := (I, oI) :: (l, _) :: _ :: (tl ++ own)) N4 perm5) (off2 _ _ _ hl4) (SpJ.mk .none _ _ _ (_ :: tl) (done ++ [p]) rfl rfl rfl rfl (hD2 _ _) (hoff2 _ _ hl3) (by rw [List.length_append, List.length_singleton]; omega) (hR1)))
            · (with_reducible rename Txt.isdigit _ = _ => hdg)
              (with_reducible rename (kindStr _ == Str.ofString "word") = true => hkw)
              have hw : isWord ((codes x).getD p.1 0) = true := by rw [← kind_word]; exact hkw
              obtain ⟨hf1, hf2, hf3⟩ := word_facts hp1 hp2 hw
              have hrem := hk2.resolve_right (fun h => by rw [hkw] at h; cases h)
              rw [beq_codes, hf1, c_REM] at hrem
              rw [hf2] at hdg
              rw [sp_num (cs := codes x) (p := p) (r := sp.drop (i + 1)) (m := mo) (by with_reducible assumption) (by with_reducible assumption) (by with_reducible assumption) (by simpa using hrem) (by with_reducible assumption) hdg] at hR1
              (with_reducible rename (moodStr mo == Str.ofString "led") = _ => hled)
              have hled2 := hled
              rw [mood_led] at hled2
              have hled' : ¬ mo = .led := by simpa using hled2
              (with_reducible rename (Txt.stripChars _ _ != Str.ofString "") = _ => hst)
              rw [hf3 hdg, decide_eq_false_iff_not] at hst
              rw [if_neg (fun h => h.elim hled' hst), if_neg hled', List.nil_append] at hR1
              (with_reducible rename Fr _ _ _ _ => F4); (with_reducible rename News _ _ _ _ => N4)
              exact hPost .next _ (turn_next F4 (news_sub N4 (fun p hp => by first | exact hp | exact List.mem_cons_of_mem _ hp)) (off) (SpJ.mk .none _ ws n' (tl) (done) rfl rfl rfl rfl (hDt) (hoff) (by omega) (hR1)))
            · (with_reducible rename Fr _ _ _ _ => F4); (with_reducible rename News _ _ _ _ => N4)
              exact hJf _ _ _ F4 (by first | exact N4 | exact news_sub N4 (fun p hp => List.mem_cons_of_mem _ hp)) (.inr (.inr (by with_reducible assumption)))
            · (with_reducible rename Fr _ _ _ _ => F4); (with_reducible rename News _ _ _ _ => N4)
              exact hJf _ _ _ F4 (by first | exact N4 | exact news_sub N4 (fun p hp => List.mem_cons_of_mem _ hp)) (.inr (.inl (by with_reducible assumption)))
            · (with_reducible rename Fr _ _ _ _ => F4); (with_reducible rename News _ _ _ _ => N4)
              exact hJf _ _ _ F4 (by first | exact N4 | exact news_sub N4 (fun p hp => List.mem_cons_of_mem _ hp)) (.inl (by with_reducible assumption))
          · intro h₆ tk₆ M3 F5 N5 hk3
            (try clear F6); (try clear N6)
            k_steps
            refine Stop.mk ?_
            refine execs_one (wpAny_If ?_)
            k_steps
            · (with_reducible rename (kindStr _ == Str.ofString "word") = true => hkw)
              have hw : isWord ((codes x).getD p.1 0) = true := by rw [← kind_word]; exact hkw
              obtain ⟨hf1, hf2, hf3⟩ := word_facts hp1 hp2 hw
              have hrem := hk2.resolve_right (fun h => by rw [hkw] at h; cases h)
              rw [beq_codes, hf1, c_REM] at hrem
              rw [hf2] at hk3
              rw [sp_word (cs := codes x) (p := p) (r := sp.drop (i + 1)) (m := mo) (by with_reducible assumption) (by with_reducible assumption) (by with_reducible assumption) (by simpa using hrem) (hk3.resolve_left (fun h => by rw [hkw] at h; cases h))] at hR1
              refine Stop.mk ?_
              (with_reducible rename Fr _ _ _ _ => F4); (with_reducible rename News _ _ _ _ => N4)
              refine Says.useD (law_leading_says w mean mg mb) G F4 N4 rfl rfl (by omega) (by omega) ?_
              rintro r own₅ h₅ tk₅ F5 N5 hoff5 - - ⟨a₅, vs₅, k₅, rfl, hm₅, hst⟩
              (try clear F4); (try clear N4)
              k_steps
              (with_reducible rename News _ _ _ _ => N6)
              refine Stop.mk ?_
              refine in_list_strs (News.isList N6 (List.mem_append_left _ hm₅)) hst ?_
              rw [lead_any, hf1]
              cases hl : wLEAD.contains (wordOf (codes x) p.1 p.2) with
              | false =>
                k_steps
                · (with_reducible rename (Txt.upper _ == Str.ofString "RESUME") = _ => hres)
                  rw [beq_codes, hf1, c_RESUME] at hres
                  rw [if_pos (by simpa using hres)] at hR1
                  (with_reducible rename Fr _ _ _ _ => F4); (with_reducible rename News _ _ _ _ => N4)
                  exact hPost .next _ (turn_next F4 (news_sub N4 (fun p hp => List.mem_append_right _ hp)) (off) (SpJ.mk .taken _ ws n' (tl) (done) rfl rfl rfl rfl (hDt) (hoff) (by omega) (hR1)))
                · (with_reducible rename (Txt.upper _ == Str.ofString "RESUME") = _ => hres)
                  rw [beq_codes, hf1, c_RESUME] at hres
                  (with_reducible rename (Txt.upper _ == Str.ofString "DATA") = _ => hdat)
                  rw [beq_codes, hf1, c_DATA] at hdat
                  rw [if_neg (by simpa using hres), if_neg (by rw [hl]; exact Bool.false_ne_true), if_pos (by simpa using hdat)] at hR1
                  (with_reducible rename Fr _ _ _ _ => F4); (with_reducible rename News _ _ _ _ => N4)
                  exact hPost .next _ (turn_next F4 (news_sub N4 (fun p hp => List.mem_append_right _ hp)) (off) (SpJ.mk .data _ ws n' (tl) (done) rfl rfl rfl rfl (hDt) (hoff) (by omega) (hR1)))
                · (with_reducible rename (Txt.upper _ == Str.ofString "RESUME") = _ => hres)
                  rw [beq_codes, hf1, c_RESUME] at hres
                  rw [if_pos (by simpa using hres)] at hR1
                  (with_reducible rename Fr _ _ _ _ => F4); (with_reducible rename News _ _ _ _ => N4)
                  exact hPost .next _ (turn_next F4 (news_sub N4 (fun p hp => List.mem_append_right _ hp)) (off) (SpJ.mk .taken _ ws n' (tl) (done) rfl rfl rfl rfl (hDt) (hoff) (by omega) (hR1)))
                · (with_reducible rename (Txt.upper _ == Str.ofString "RESUME") = _ => hres)
                  rw [beq_codes, hf1, c_RESUME] at hres
                  (with_reducible rename (Txt.upper _ == Str.ofString "DATA") = _ => hdat)
                  rw [beq_codes, hf1, c_DATA] at hdat
                  rw [if_neg (by simpa using hres), if_neg (by rw [hl]; exact Bool.false_ne_true), if_neg (by simpa using hdat)] at hR1
                  (with_reducible rename Fr _ _ _ _ => F4); (with_reducible rename News _ _ _ _ => N4)
                  exact hPost .next _ (turn_next F4 (news_sub N4 (fun p hp => List.mem_append_right _ hp)) (off) (SpJ.mk .out _ ws n' (tl) (done) rfl rfl rfl rfl (hDt) (hoff) (by omega) (hR1)))
              | true =>
                k_steps
                · (with_reducible rename (Txt.upper _ == Str.ofString "RESUME") = _ => hres)
                  rw [beq_codes, hf1, c_RESUME] at hres
                  rw [if_pos (by simpa using hres)] at hR1
                  (with_reducible rename Fr _ _ _ _ => F4); (with_reducible rename News _ _ _ _ => N4)
                  exact hPost .next _ (turn_next F4 (news_sub N4 (fun p hp => List.mem_append_right _ hp)) (off) (SpJ.mk .taken _ ws n' (tl) (done) rfl rfl rfl rfl (hDt) (hoff) (by omega) (hR1)))
                · (with_reducible rename (Txt.upper _ == Str.ofString "RESUME") = _ => hres)
                  rw [beq_codes, hf1, c_RESUME] at hres
                  rw [if_neg (by simpa using hres), if_pos hl] at hR1
                  (with_reducible rename Fr _ _ _ _ => F4); (with_reducible rename News _ _ _ _ => N4)
                  exact hPost .next _ (turn_next F4 (news_sub N4 (fun p hp => List.mem_append_right _ hp)) (off) (SpJ.mk .led _ ws n' (tl) (done) rfl rfl rfl rfl (hDt) (hoff) (by omega) (hR1)))
            · refine Stop.mk ?_
              (with_reducible rename Fr _ _ _ _ => F4); (with_reducible rename News _ _ _ _ => N4)
              refine if_once ((kindStr ((codes x).getD p.1 0) == Str.ofString ",") = false ∨ ([Str.ofString "told", Str.ofString "none"].any fun x => x == moodStr mo) = false) F4 N4 (fun Jf hJf => ?_) ?_
              · k_steps
                · (with_reducible rename (moodStr mo == Str.ofString "told") = _ => ht)
                  rw [sp_comma (cs := codes x) (p := p) (r := sp.drop (i + 1)) (m := mo) (by with_reducible assumption) (by with_reducible assumption) (by with_reducible assumption) (by with_reducible assumption) (by with_reducible assumption), if_pos ht] at hR1
                  (with_reducible rename Fr _ _ _ _ => F4); (with_reducible rename News _ _ _ _ => N4)
                  exact hPost .next _ (turn_next F4 (news_sub N4 (fun p hp => by first | exact hp | exact List.mem_cons_of_mem _ hp)) (off) (SpJ.mk .led _ ws n' (tl) (done) rfl rfl rfl rfl (hDt) (hoff) (by omega) (hR1)))
                · (with_reducible rename (moodStr mo == Str.ofString "told") = _ => ht)
                  rw [sp_comma (cs := codes x) (p := p) (r := sp.drop (i + 1)) (m := mo) (by with_reducible assumption) (by with_reducible assumption) (by with_reducible assumption) (by with_reducible assumption) (by with_reducible assumption), if_neg (by rw [ht]; exact Bool.false_ne_true)] at hR1
                  (with_reducible rename Fr _ _ _ _ => F4); (with_reducible rename News _ _ _ _ => N4)
                  exact hPost .next _ (turn_next F4 (news_sub N4 (fun p hp => by first | exact hp | exact List.mem_cons_of_mem _ hp)) (off) (SpJ.mk .taken _ ws n' (tl) (done) rfl rfl rfl rfl (hDt) (hoff) (by omega) (hR1)))
                · (with_reducible rename Fr _ _ _ _ => F4); (with_reducible rename News _ _ _ _ => N4)
                  exact hJf _ _ _ F4 (by first | exact N4 | exact news_sub N4 (fun p hp => List.mem_cons_of_mem _ hp)) (.inr (by with_reducible assumption))
                · (with_reducible rename Fr _ _ _ _ => F4); (with_reducible rename News _ _ _ _ => N4)
                  exact hJf _ _ _ F4 (by first | exact N4 | exact news_sub N4 (fun p hp => List.mem_cons_of_mem _ hp)) (.inl (by with_reducible assumption))
              · intro h₇ tk₇ M4 F7 N7 hk5
                (try clear F4); (try clear N4)
                k_steps
                refine Stop.mk ?_
                refine execs_one (wpAny_If ?_)
                k_steps
                · rw [sp_out (cs := codes x) (p := p) (r := sp.drop (i + 1)) (m := mo) (by with_reducible assumption) (by with_reducible assumption) (by with_reducible assumption) hk5 (by with_reducible assumption)] at hR1
                  (with_reducible rename Fr _ _ _ _ => F4); (with_reducible rename News _ _ _ _ => N4)
                  exact hPost .next _ (turn_next F4 (news_sub N4 (fun p hp => by first | exact hp | exact List.mem_cons_of_mem _ hp)) (off) (SpJ.mk .out _ ws n' (tl) (done) rfl rfl rfl rfl (hDt) (hoff) (by omega) (hR1)))
                · rw [sp_blank (cs := codes x) (p := p) (r := sp.drop (i + 1)) (m := mo) (by with_reducible assumption) (by with_reducible assumption) (by with_reducible assumption) (by with_reducible assumption)] at hR1
                  (with_reducible rename Fr _ _ _ _ => F4); (with_reducible rename News _ _ _ _ => N4)
                  exact hPost .next _ (turn_next F4 (news_sub N4 (fun p hp => by first | exact hp | exact List.mem_cons_of_mem _ hp)) (off) (SpJ.mk mo _ ws n' (tl) (done) rfl rfl rfl rfl (hDt) (hoff) (by omega) (hR1)))
    · rintro m₁ nx h tk ⟨mo, tm, ws, n', tl, done, rfl, hm1, hm2, hm3, hDt, hoff, hdl, hR1⟩ F3 N3
      rw [List.drop_of_length_le (Nat.le_of_eq (by rw [List.size_toArray, hD.length, List.length_map])), lawSpots.eq_1, List.append_nil] at hR1
      replace F3 := kst_of F3 [(Str.ofString "text", .str x t), (Str.ofString "found", .ref l)]
        (List.forall_mem_cons.mpr ⟨hm1, List.forall_mem_cons.mpr ⟨hm2, fun _ h => nomatch h⟩⟩)
      k_steps
      (with_reducible rename Fr _ _ _ _ => F4); (with_reducible rename News _ _ _ _ => N4)
      subst hR1
      exact hret (.ref l) _ _ _ (over_of F4 N4) (DatIn.list List.mem_cons_self (DatAll.mono (fun p hp => List.mem_cons_of_mem _ (List.mem_append_left _ hp)) hDt))

end

section
/-- what holds of the loop before turn i -/
noncomputable def WnJ (x : Str) (t : Tok) (d : Addr) (o : Obj) (own : List (Addr × Obj)) (sp : List (Nat × Nat)) (turn : Nat → Option Nat) (i : Nat) (m : Str → Option Value) (nx : List (Addr × Obj)) : Prop :=
  nx = (d, o) :: own ∧ ∃ (a : Nat) (ta : Tok) (f : Str) (tf : Tok), m (Str.ofString "text") = some (.str x t) ∧ m (Str.ofString "turned") = some (.ref d) ∧ m (Str.ofString "found") = some (.str f tf) ∧ m (Str.ofString "at") = some (.int a ta) ∧
      a ≤ x.length ∧ f.length ≤ i * 2000 ∧ ChainTo a (sp.drop i) (codes x).length ∧ codes f ++ weave (codes x) turn (sp.drop i) a = weave (codes x) turn sp 0
theorem WnJ.mk {x : Str} {t : Tok} {d : Addr} {o : Obj} {own : List (Addr × Obj)} {sp : List (Nat × Nat)} {turn : Nat → Option Nat} {i : Nat} {m : Str → Option Value} {a : Nat} {ta : Tok} {f : Str} {tf : Tok} (h1 : m (Str.ofString "text") = some (.str x t)) (h2 : m (Str.ofString "turned") = some (.ref d)) (h3 : m (Str.ofString "found") = some (.str f tf)) (h4 : m (Str.ofString "at") = some (.int a ta))
    (h5 : a ≤ x.length) (h6 : f.length ≤ i * 2000) (h7 : ChainTo a (sp.drop i) (codes x).length) (h8 : codes f ++ weave (codes x) turn (sp.drop i) a = weave (codes x) turn sp 0) : WnJ x t d o own sp turn i m ((d, o) :: own) := ⟨rfl, a, ta, f, tf, h1, h2, h3, h4, h5, h6, h7, h8⟩
theorem fd_len {f s z : Str} {i : Nat} (h1 : f.length ≤ i * 2000) (h2 : s.length ≤ 1000) (h3 : z.length ≤ 1000) : (f ++ s ++ z).length ≤ (i + 1) * 2000 := by
  rw [Str.length_append, Str.length_append, Nat.succ_mul]
  exact Nat.le_trans (Nat.add_le_add (Nat.add_le_add h1 h2) h3) (Nat.le_of_eq (Nat.add_assoc _ _ _))
theorem with_numbers_says (w : World) (mean : ExcName → Option Value) (mg mb : Str → Option Value) (x : Str) (t : Tok) (d : Addr) (o : Obj) (kvs : List (Int × Value)) (D : List (PyData × PyData))
    (hlo : (d == sysModules) = false) (hdo : o.IsDictOf (PySem.intKind PySem.Challenge.rw_pf0003_01.row.prog w) kvs) (hfl : PyProof.V.FlatPairs PyData.int kvs D) (turn : Nat → Option Nat) (hturn : ∀ k : Nat, Spec.lookup (PyData.int (k : Int)) D = (turn k).map fun (v : Nat) => PyData.int (v : Int)) (hsmall : ∀ k v, turn k = some v → v < 100000) (hx : x.length ≤ 1000) :
    Says w mean mg mb 95 7 [(d, o)] [.str x t, .ref d] (fun r n => n = [(d, o)] ∧ ∃ u y, r = .str y u ∧ codes y = weave (codes x) turn (told (codes x) (x.length + 1) 0 []) 0) := by
  intro dp un gd base fr g s Q E G O hd hu hret
  obtain ⟨H₀, GS₀, DR₀, TK₀, OS₀⟩ := s
  dsimp only at O hret ⊢
  have ⟨B, X, T⟩ := G
  have hxl := codes_len x
  have hok := told_ok (cs := codes x) (k := x.length + 1) (ah := []) (Nat.zero_le _)
  have hch := told_chain (cs := codes x) (k := x.length + 1) (ah := []) (Nat.zero_le _)
  have hsp := told_spots_says w mean mg mb x
  have hsl : (told (codes x) (x.length + 1) 0 []).length ≤ x.length := by have := told_len (cs := codes x) (k := x.length + 1) (ah := []) (Nat.zero_le _); omega
  obtain ⟨sp, hg_sp⟩ : ∃ y, told (codes x) (x.length + 1) 0 [] = y := ⟨_, rfl⟩
  rw [hg_sp] at hret hok hsp hsl hch
  (refine wpAny_call ?_; k_dflt (refine' enter_plain ?k1 ?k3 ?k5 ?k6 ?k7 ?k8 ?k9 ?kB ?_ ?c2 ?c3 ?c4 ?c5; (case k1 => assumption); (case k3 => assumption); (case k5 => assumption); (case k6 => k_is); (case k7 => k_is); (case k8 => exact room_of (by assumption)); (case k9 => exact BindsTo.of_eq rfl); (case kB => exact locs rfl); (case c2 => exact rfl); (case c3 => exact rfl); (case c4 => exact rfl); (case c5 => decide); intro _ _ _ _ _; (try dsimp only); (try k_fold)))
  (with_reducible rename Fr _ _ _ _ => F'); (with_reducible rename News _ _ _ _ => N')
  k_steps
  (with_reducible rename News _ _ _ _ => N'); (with_reducible rename Fr _ _ _ _ => F')
  replace N' := news_sub (b := [(d, o)]) N' (fun p hp => List.mem_cons_of_mem _ hp)
  refine Stop.mk ?_
  refine for_tuples (h₀ := g) (xs := [(Str.ofString "begin", _), (Str.ofString "end", _)]) rfl (List.forall_mem_cons.mpr ⟨rfl, List.forall_mem_cons.mpr ⟨rfl, fun _ h => nomatch h⟩⟩) rfl ?_
  k_steps
  refine Stop.mk ?_
  refine Says.useD (hsp _ (by omega)) G F' N' rfl rfl (by omega) (by omega) ?_
  rintro r own h₂ tk₂ F2 N2 hoff2 - - hD
  replace N2 := news_sub (b := _ :: own) N2 (fun p hp => List.mem_append.mpr ((List.mem_cons.mp hp).symm.imp _root_.id (fun e => List.mem_singleton.mpr e)))
  cases hD with
  | @list a vs n _ hm hD =>
    k_steps
    refine ⟨a, vs.toArray, n, _, _, WnJ x t d o own sp turn, rfl, rfl, F2, N2, ?_, ⟨rfl, 0, _, _, _, rfl, rfl, rfl, rfl, Nat.zero_le _, Nat.zero_le _, hch, rfl⟩, ?_, ?_⟩
    · rintro i m nx ⟨rfl, -⟩
      exact List.mem_cons_of_mem _ hm
    · rintro i v m₁ nx I oI h tk hv ⟨rfl, a₁, ta, f₁, tf, hm1, hm2, hm3, hm4, ha, hfl1, hc1, hR⟩
      obtain ⟨p, hp, a₂, tb, te, nn, rfl, hm5⟩ := spot_at hD (i := i) (v := v) (by simpa using hv)
      have hS := hok p (List.mem_of_getElem? hp)
      refine ⟨a₂, [.int p.1 tb, .int p.2 te], nn, rfl, List.mem_cons_of_mem _ hm5, rfl, fun F3 N3 off Post hPost => ?_⟩
      replace F3 := kst_of F3 [(Str.ofString "text", .str x t), (Str.ofString "turned", .ref d), (Str.ofString "found", .str f₁ tf), (Str.ofString "at", .int a₁ ta), (Str.ofString "begin", .int p.1 tb), (Str.ofString "end", .int p.2 te)]
        (List.forall_mem_cons.mpr ⟨hm1, List.forall_mem_cons.mpr ⟨hm2, List.forall_mem_cons.mpr ⟨hm3, List.forall_mem_cons.mpr ⟨hm4, List.forall_mem_cons.mpr ⟨rfl, List.forall_mem_cons.mpr ⟨rfl, fun _ h => nomatch h⟩⟩⟩⟩⟩⟩)
      have hi : i ≤ 1000 := by
        obtain ⟨h9, -⟩ := List.getElem?_eq_some_iff.mp hp
        omega
      k_steps
      (with_reducible rename (Txt.slice _ _ _).length ≤ _ => hsl2); (with_reducible rename Fr _ _ _ _ => F4); (with_reducible rename News _ _ _ _ => N4)
      refine Stop.mk ?_
      refine Says.useD (number_told_says w mean mg mb _ _ (spot_figs hS) (by omega)) G F4 N4 rfl rfl (by omega) (by omega) ?_
      rintro r own₅ h₅ tk₅ F5 N5 - - - ⟨rfl, u₅, rfl⟩
      rw [spot_num hS]
      (try clear F4); (try clear N4); (try clear F3); (try clear N3)
      dsimp only [List.nil_append] at N5
      have hlk := hturn (numAt (codes x) p)
      cases hT : turn (numAt (codes x) p) with
      | none =>
        rw [hT, Option.map_none] at hlk
        have hw := weave_turn (z := Txt.slice x (some (p.1 : Int)) (some (p.2 : Int))) hp hc1 hS hR (by rw [newAt, hT, spot_slice hS, cut_codes])
        have h2 := hS.2.1
        k_steps
        · (with_reducible rename (Option.isSome _ = true) => hbad); rw [hlk] at hbad; cases hbad
        · (with_reducible rename (Txt.slice _ _ (some (p.1 : Int))).length ≤ _ => b4)
          (with_reducible rename Fr _ _ _ _ => F9); (with_reducible rename News _ _ _ _ => N9)
          exact hPost .next _ (turn_next F9 N9 off (WnJ.mk rfl rfl rfl rfl (hxl ▸ hS.2.1) (fd_len hfl1 (Nat.le_trans b4 (by omega)) (Nat.le_trans hsl2 (by omega))) hw.2 hw.1))
      | some v =>
        rw [hT, Option.map_some] at hlk
        have hv5 := hsmall _ _ hT
        have hw := weave_turn (z := Str.ofString (toString (v : Int))) hp hc1 hS hR (by rw [newAt, hT])
        have h2 := hS.2.1
        k_steps
        · have b3 := PyProof.Rows.toString_length_le (v := (v : Int)) (by omega) (k := 5) (by omega) (by omega)
          (with_reducible rename (Txt.slice _ _ (some (p.1 : Int))).length ≤ _ => b4)
          (with_reducible rename Fr _ _ _ _ => F9); (with_reducible rename News _ _ _ _ => N9)
          exact hPost .next _ (turn_next F9 N9 off (WnJ.mk rfl rfl rfl rfl (hxl ▸ hS.2.1) (fd_len hfl1 (Nat.le_trans b4 (by omega)) (Nat.le_trans b3 (by decide))) hw.2 hw.1))
        · (with_reducible rename (Option.isSome _ = false) => hbad); rw [hlk] at hbad; cases hbad
    · rintro m₁ nx h tk ⟨rfl, a₁, ta, f₁, tf, hm1, hm2, hm3, hm4, ha, hfl1, hc1, hR⟩ F3 N3
      have hw := weave_end (Nat.le_of_eq (by rw [List.size_toArray, hD.length, List.length_map])) ha hR
      replace F3 := kst_of F3 [(Str.ofString "text", .str x t), (Str.ofString "turned", .ref d), (Str.ofString "found", .str f₁ tf), (Str.ofString "at", .int a₁ ta)]
        (List.forall_mem_cons.mpr ⟨hm1, List.forall_mem_cons.mpr ⟨hm2, List.forall_mem_cons.mpr ⟨hm3, List.forall_mem_cons.mpr ⟨hm4, fun _ h => nomatch h⟩⟩⟩⟩)
      have hi : vs.toArray.size ≤ 1000 := by rw [List.size_toArray, hD.length, List.length_map]; omega
      k_steps
      (with_reducible rename Fr _ _ _ _ => F4); (with_reducible rename News _ _ _ _ => N4)
      exact hret _ _ _ _ (over_of F4 (news_sub N4 (fun p hp => by rw [List.mem_singleton.mp hp]; exact List.mem_cons_self))) ⟨rfl, _, _, rfl, hw⟩

end

section
local macro_rules
  | `(tactic| walk_at $s) => let k := s.getString; if k == "eval ListComp" then `(tactic| refine Stop.out ?_) else Lean.Macro.throwUnsupported
open PyProof.Rows.LCg
theorem lines_told_says (w : World) (mean : ExcName → Option Value) (mg mb : Str → Option Value) (x : Str) (t : Tok) (hx : x.length ≤ 10000) :
    Says w mean mg mb 88 7 [] [.str x t] (fun r n => DatIn n r (Dat.list ((told (codes x) (x.length + 1) 0 []).map fun p => Dat.int (numAt (codes x) p)))) := by
  intro dp un gd base fr g s Q E G O hd hu hret
  obtain ⟨H₀, GS₀, DR₀, TK₀, OS₀⟩ := s
  dsimp only at O hret ⊢
  have ⟨B, X, T⟩ := G
  have hxl := codes_len x
  have hok := told_ok (cs := codes x) (k := x.length + 1) (ah := []) (Nat.zero_le _)
  have hsp := told_spots_says w mean mg mb x
  have hsl : (told (codes x) (x.length + 1) 0 []).length ≤ x.length := by have := told_len (cs := codes x) (k := x.length + 1) (ah := []) (Nat.zero_le _); omega
  obtain ⟨sp, hg_sp⟩ : ∃ y, told (codes x) (x.length + 1) 0 [] = y := ⟨_, rfl⟩
  rw [hg_sp] at hret hok hsp hsl
  (refine wpAny_call ?_; k_dflt (refine' enter_cells ?k1 ?k3 ?k5 ?k6 ?k7 ?k8 ?k9 ?kB ?kD ?_ ?c2 ?c3 ?c4; (case k1 => assumption); (case k3 => assumption); (case k5 => assumption); (case k6 => k_is); (case k7 => k_is); (case k8 => exact room_of (by assumption)); (case k9 => exact BindsTo.of_eq rfl); (case kB => exact rfl); (case kD => decide +kernel); (case c2 => exact rfl); (case c3 => exact rfl); (case c4 => exact rfl); intro _ _ _ _ _ N' Y' _; k_cells Y'; (try simp only [List.cons_append, List.nil_append] at N'); (try dsimp only); (try k_fold)))
  (with_reducible rename Fr _ _ _ _ => F'); (with_reducible rename News _ _ _ _ => N')
  k_steps
  (with_reducible rename _ = Data.cell _ => hcell)
  have hcell' : _ = Data.cell (some (.str x t)) := hcell
  clear hcell
  refine Stop.mk ?_
  (with_reducible rename Fr _ _ _ _ => F'); (with_reducible rename News _ _ _ _ => N')
  refine LCp.ListComp_P (F₀ := F') (by with_unfolding_all rfl) (by decide) (by rfl) (by decide) (by rfl) (by rfl) (by decide) ?_
  k_steps
  refine Stop.mk ?_
  refine Says.useD (hsp _ hx) G F' N' rfl rfl (by omega) (by omega) ?_
  rintro r own h₂ tk₂ F2 N2 hoff2 - - hD
  clear F' N'
  replace N2 := news_sub (b := _ :: own) N2 (fun p hp => List.mem_append.mpr ((List.mem_cons.mp hp).symm.imp _root_.id (fun e => List.mem_singleton.mpr e)))
  cases hD with
  | @list a vs n _ hm hD =>
    k_steps
    have hlen : vs.length = sp.length := by rw [hD.length, List.length_map]
    refine' LCp.SrcLP.ledger ?lgA ?lgB ?lgC ?lgD ?lgE ?lgF
    case lgA => exact rfl
    case lgB => exact F2
    case lgC => exact N2
    case lgD => exact (List.mem_cons_of_mem _ hm)
    case lgE => rw [List.size_toArray]; exact Nat.le_trans (Nat.le_trans (Nat.le_of_eq hlen) (Nat.le_trans hsl (by omega))) (by decide : 10000 ≤ sizeLine)
    intro g₂
    refine' restP_of (fun i ys => DatAll [] ys ((sp.take i).map fun p => Dat.int (numAt (codes x) p))) ?rpA ?rpB _ 0 [] ?rpC ?rpD
    case rpC => exact Nat.add_zero _
    case rpD => exact DatAll.nil
    · intro i ys hi hJ v hv
      obtain ⟨p, hp, a₁, tb, te, nn, rfl, hm1⟩ := spot_at hD (i := i) (v := v) (by simpa using hv)
      have hS := hok p (List.mem_of_getElem? hp)
      refine ⟨_, _, _, _, _, rfl, List.mem_cons_of_mem _ hm1, rfl, rfl, ?_⟩
      intro I oI C oC D m₂ h tk E' hC hx1 hx2 F3 N3 off ne
      k_steps
      (with_reducible rename (Txt.slice _ _ _).length ≤ _ => hsl2); (with_reducible rename Fr _ _ _ _ => F4); (with_reducible rename News _ _ _ _ => N4)
      refine Stop.mk ?_
      refine Says.useD (number_told_says w mean mg mb _ _ (spot_figs hS) (by omega)) G F4 N4 rfl rfl (by omega) (by omega) ?_
      rintro r own₅ h₅ tk₅ F5 N5 - - - ⟨rfl, u₅, rfl⟩
      refine CompEnd.intro F5 N5 _ (fun p hp => hp) off (.inr ⟨_, List.mem_cons_of_mem _ hm, rfl, _, rfl⟩) ⟨rfl, ?_⟩
      rw [take_more hp, List.map_append, spot_num hS]
      exact DatAll.append hJ (DatAll.one (DatIn.int _ _))
    · intro ys hJ D h tk F3 N3 off
      rw [List.take_of_length_le (by rw [List.size_toArray]; omega)] at hJ
      exact hret (.ref D) _ _ _ (over_of F3 N3) (DatIn.list List.mem_cons_self (DatAll.mono (news := []) (fun _ hp => nomatch hp) hJ))

end

section
theorem stop_new {M : Model} {A : Around} {E : Value → Shared → Prop} {s : Shared} {env : Env} {e : Expr} {q p : Pos} {r : List Stmt} {Q : Flow → Shared → Prop} (h : Stop (wpAny M A (execs (.Assign [.Name (Str.ofString "new") q] e p :: r) env) Q E s)) : wpAny M A (execs (.Assign [.Name (Str.ofString "new") q] e p :: r) env) Q E s := h.out
theorem ints_zero {vs : List Value} {ns : List Int} (h : IntsAre vs ns) (h0 : 1 ≤ ns.length) : ∃ k t, vs[0]? = some (.int k t) ∧ ns[0]? = some k := by
  cases h with
  | nil => exact absurd h0 (by decide)
  | cons n t _ => exact ⟨n, t, rfl, rfl⟩
theorem front4 {α : Type} {a b : α} {o3 o2 o1 t : List α} : ∀ p ∈ a :: b :: (o3 ++ (o2 ++ (o1 ++ t))), p ∈ o3 ++ (o2 ++ (o1 ++ a :: b :: t)) := by
  intro p hp
  simp only [List.mem_cons, List.mem_append] at hp ⊢
  rcases hp with h | h | h | h | h | h <;> simp only [h, true_or, or_true]
theorem front2 {α : Type} {a b : α} {own t : List α} : ∀ p ∈ a :: b :: (own ++ t), p ∈ own ++ a :: b :: t := by
  intro p hp
  simp only [List.mem_cons, List.mem_append] at hp ⊢
  rcases hp with h | h | h | h <;> simp only [h, true_or, or_true]
open PyProof.Rows.LCg
/-- what holds of the law's loop before turn i -/
noncomputable def LoopJ (x : Str) (S : List (Nat × Nat)) (turn : Nat → Option Nat) (l d : Addr) (od : Obj) (TL : List (Addr × Obj)) (i : Nat) (m : Str → Option Value) (nx : List (Addr × Obj)) : Prop :=
  ∃ (a : Nat) (ta : Tok) (f : Str) (tf : Tok) (ws : List Value) (n : Nat), nx = (l, listOf ws.toArray n) :: (d, od) :: TL ∧ m (Str.ofString "turned") = some (.ref d) ∧ m (Str.ofString "due") = some (.str f tf) ∧ m (Str.ofString "told") = some (.ref l) ∧ m (Str.ofString "at") = some (.int a ta) ∧
    a ≤ x.length ∧ ChainTo a (S.drop i) (codes x).length ∧ codes f ++ weave (codes x) turn (S.drop i) a = weave (codes x) turn S 0 ∧
    DatAll [] ws ((S.take i).map fun p => Dat.int ((numTold (newAt (codes x) turn p) : Nat) : Int))
theorem allLt_mem {d : Nat} : ∀ {l : List (Addr × Obj)}, AllLt d l → ∀ p ∈ l, p.1 ≠ d
  | [], _, _, hp => nomatch hp
  | q :: r, h, p, hp => by
    rcases List.mem_cons.mp hp with rfl | hp
    · exact Nat.ne_of_lt h.1
    · exact allLt_mem h.2 p hp
/-- where the two ways to the new text of a spot meet -/
noncomputable def NewD (g : Heap) (L : Addr) (GS : Array GenState) (DR : Drawn) (OS : OsState) (ps : List (Str × Value)) (nx : List (Addr × Obj)) (R : List Nat) (s' : Shared) : Prop :=
  ∃ (h' : Heap) (tk' : Nat) (M : Str → Option Value) (z : Str) (tz : Tok), s' = { heap := h', gens := GS, drawn := DR, toks := tk', os := OS } ∧ Fr g L h' (kstB M ((Str.ofString "new", .str z tz) :: ps)) ∧ News g L h' nx ∧ codes z = R
theorem NewD.mk {g : Heap} {L : Addr} {GS : Array GenState} {DR : Drawn} {OS : OsState} {ps : List (Str × Value)} {nx : List (Addr × Obj)} {R : List Nat} {h' : Heap} {tk' : Nat} {M : Str → Option Value} {z : Str} {tz : Tok}
    (F : Fr g L h' (kstB M ((Str.ofString "new", .str z tz) :: ps))) (N : News g L h' nx) (hz : codes z = R) : NewD g L GS DR OS ps nx R { heap := h', gens := GS, drawn := DR, toks := tk', os := OS } := ⟨h', tk', M, z, tz, rfl, F, N, hz⟩
theorem newd_join {prog : Program} {w : World} {A : Around} {E : Value → Shared → Prop} {Q : Flow → Shared → Prop} {env : Env} {st : Stmt} {rest : List Stmt} {g : Heap} {L : Addr} {GS : Array GenState} {DR : Drawn} {OS : OsState} {nx : List (Addr × Obj)} {h : Heap} {m : Str → Option Value} {tk : Nat}
    (ps : List (Str × Value)) (R : List Nat) (_F : Fr g L h m) (_N : News g L h nx) (h1 : ∀ J : Flow → Shared → Prop, (∀ s', NewD g L GS DR OS ps nx R s' → J .next s') → wpAny (model prog w) A (exec st env) J E { heap := h, gens := GS, drawn := DR, toks := tk, os := OS })
    (h2 : ∀ s', NewD g L GS DR OS ps nx R s' → wpAny (model prog w) A (execs rest env) Q E s') : wpAny (model prog w) A (execs (st :: rest) env) Q E { heap := h, gens := GS, drawn := DR, toks := tk, os := OS } := execs_join _ h1 h2
theorem NewD.put {g : Heap} {L : Addr} {GS : Array GenState} {DR : Drawn} {OS : OsState} {nx : List (Addr × Obj)} {R : List Nat} {h' : Heap} {tk' : Nat} {m : Str → Option Value} {z : Str} {tz : Tok} {a b c d e f : Str} {va vb vc vd ve vf : Value}
    (F : Fr g L h' m) (N : News g L h' nx) (h1 : m (Str.ofString "new") = some (.str z tz)) (hz : codes z = R) (h2 : m a = some va) (h3 : m b = some vb) (h4 : m c = some vc) (h5 : m d = some vd) (h6 : m e = some ve) (h7 : m f = some vf) :
    NewD g L GS DR OS [(a, va), (b, vb), (c, vc), (d, vd), (e, ve), (f, vf)] nx R { heap := h', gens := GS, drawn := DR, toks := tk', os := OS } :=
  NewD.mk (kst_of F _ (List.forall_mem_cons.mpr ⟨h1, List.forall_mem_cons.mpr ⟨h2, List.forall_mem_cons.mpr ⟨h3, List.forall_mem_cons.mpr ⟨h4, List.forall_mem_cons.mpr ⟨h5, List.forall_mem_cons.mpr ⟨h6, List.forall_mem_cons.mpr ⟨h7, fun _ h => nomatch h⟩⟩⟩⟩⟩⟩⟩)) N hz
theorem new_short {cs : List Nat} {turn : Nat → Option Nat} {p : Nat × Nat} (hg : ∀ k v, turn k = some v → Good v ∧ (codes (Str.ofString (toString (v : Int)))).length ≤ 5) (h : p.2 ≤ cs.length) (hl : cs.length ≤ 900) : (newAt cs turn p).length ≤ 1000 := by
  unfold newAt
  split
  · rw [List.length_take]; exact Nat.le_trans (Nat.min_le_left _ _) (Nat.le_trans (Nat.sub_le _ _) (Nat.le_trans h (Nat.le_trans hl (by decide))))
  · exact Nat.le_trans (hg _ _ (by assumption)).2 (by decide)
theorem new_figs {cs : List Nat} {turn : Nat → Option Nat} {p : Nat × Nat} (hg : ∀ k v, turn k = some v → Good v ∧ (codes (Str.ofString (toString (v : Int)))).length ≤ 5) (hS : Spot cs p) : ∀ c ∈ newAt cs turn p, isFig c = true := by
  unfold newAt
  split
  · exact hS.2.2
  · exact List.all_eq_true.mp (hg _ _ (by assumption)).1.2.1
local macro_rules
  | `(tactic| walk_at $s) => let k := s.getString; if k == "eval ListComp" then `(tactic| with_reducible first | refine stop_sub ?_ | refine stop_num ?_) else if k == "CompSrc" then `(tactic| with_reducible refine stop_src ?_) else if k == "execs cons" then `(tactic| with_reducible first | refine stop_new ?_ | (refine gen_toks ?_; intro _)) else if k == "execs nil" then `(tactic| (with_reducible refine gen_toks ?_; intro _)) else if k == "subscriptTail Name Constant ref int" then `(tactic| refine Stop.out ?_) else Lean.Macro.throwUnsupported
local macro_rules
  | `(tactic| walk_at $s) => let k := s.getString; if k == "ite" then `(tactic| (k_closed; with_reducible first | (refine PySem.W.ite_pos ?_ ?_; decide) | (refine PySem.W.ite_neg ?_ ?_; decide))) else Lean.Macro.throwUnsupported
set_option maxHeartbeats 0 in
theorem law_walk : PySem.Challenge.rw_pf0003_01.Holds := by
  refine hd ?_
  k_go0
  (all_goals try k_fold)
  (rename Shared => S1)
  obtain ⟨H1, GS1, DR1, TK1, OS1⟩ := S1
  (dsimp only at *)
  (rename Below _ _ _ _ => K0); (rename Frag.In _ _ => KX); (rename Top _ _ _ _ _ _ => T)
  have G : Gnd _ _ _ _ (1 + claimMargin) 4 (some []) _ [] _ := ⟨K0, KX, T⟩
  k_steps
  refine Stop.mk ?_
  (rename Fr _ _ _ _ => F'); (rename News _ _ _ _ => N'); (rename IntsAre _ (_ ++ _) => hI)
  obtain ⟨M1, F1X⟩ := fr_letter F' [(Str.ofString "some", _)] (List.forall_mem_cons.mpr ⟨rfl, fun _ h => nomatch h⟩)
  clear F'; (rename Fr _ _ _ _ => F')
  have hIl := ints_len hI
  replace N' := news_sub (b := [_, _]) N' (List.forall_mem_cons.mpr ⟨List.mem_cons_self, List.forall_mem_cons.mpr ⟨List.mem_cons_of_mem _ (List.mem_cons_of_mem _ (List.mem_cons_of_mem _ (List.mem_cons_of_mem _ List.mem_cons_self))), fun _ h => nomatch h⟩⟩)
  obtain ⟨vals, hI, hIl, hv0, hvl, hv9⟩ : ∃ vals : List Int, IntsAre _ vals ∧ List.length _ = vals.length ∧ 1 ≤ vals.length ∧ vals.length ≤ 15 ∧ ∀ v ∈ vals, 0 ≤ v := by
    refine ⟨_, hI, hIl, ?_, ?_, ?_⟩
    · simp only [List.length_append, List.length_singleton]; omega
    · simp only [List.length_append, List.length_map, List.length_take, List.length_singleton]; omega
    · intro v hv
      rcases List.mem_append.mp hv with hv | hv
      · obtain ⟨u, _, rfl⟩ := List.mem_map.mp hv
        split <;> omega
      · rw [List.mem_singleton.mp hv]; omega
  refine ListComp_U (F₀ := F') (by with_unfolding_all rfl) (by decide) (by rfl) (by decide) (by rfl) ?_
  k_steps
  refine Stop.mk ?_
  refine' CompSrc.ledger ?lgA ?lgB ?lgC ?lgD ?lgE ?lgF
  case lgA => exact rfl
  case lgB => exact F'
  case lgC => exact N'
  case lgD => exact List.mem_cons_self
  case lgE => rw [List.size_toArray]; exact Nat.le_trans (Nat.le_trans (Nat.le_of_eq hIl) hvl) (by decide)
  intro g₂
  refine' rest_of (fun i ys => StrsAre ys ((vals.take i).map piece)) ?rpA ?rpB _ 0 [] ?rpC ?rpD
  case rpC => exact Nat.add_zero _
  case rpD => exact StrsAre.nil
  · intro i ys hi hJ v hv I oI C oC D m₂ h tk E' hC hx1 F3 N3 off ne
    obtain ⟨kk, tt, rfl, hk⟩ := ints_get hI (i := i) (v := v) (by simpa using hv)
    k_steps
    (rename Fr _ _ _ _ => F5); (rename News _ _ _ _ => N5)
    refine CompEnd.intro F5 N5 _ (fun p hp => hp) off (.inr ⟨_, List.mem_cons_self, rfl, _, rfl⟩) ⟨rfl, ?_⟩
    rw [take_more hk, List.map_append]
    exact strs_snoc hJ (piece kk) _
  · intro ys hJ D h tk F3 N3 off
    rw [List.take_of_length_le (by rw [List.size_toArray]; omega)] at hJ
    k_steps
    (rename Fr _ _ _ _ => F4); (rename News _ _ _ _ => N4)
    refine join_listX (News.isList N4 List.mem_cons_self) hJ (by have := pieces_sum vals; rw [List.length_map, show (Str.ofString "").length = 0 by decide]; omega) ?_
    intro x t' k' hx
    replace N4 := news_sub N4 (fun p hp => List.mem_cons_of_mem _ hp)
    (try clear F3); (try clear N3); (try clear F'); (try clear N')
    have hxl : x.length ≤ 135 := by rw [← codes_len, ← hx]; exact Nat.le_trans (Nat.le_of_eq (congrArg List.length (codes_tjoin _))) (Nat.le_trans (pieces_codes vals) (by omega))
    k_steps
    refine Stop.mk ?_
    (rename Fr _ _ _ _ => F2); (rename News _ _ _ _ => N2)
    obtain ⟨M2, F2X⟩ := fr_letter F2 [(Str.ofString "some", _)] (List.forall_mem_cons.mpr ⟨rfl, fun _ h => nomatch h⟩)
    clear F2; (rename Fr _ _ _ _ => F2)
    refine Says.useD (law_spots_says _ _ _ _ x t' (by omega)) G F2 N2 rfl rfl (by decide) (by decide) ?_
    rintro r own₁ h₁ tk₁ F3 N3 hoff1 - - hD1
    (try clear F2); (try clear N2)
    obtain ⟨S1, hS1⟩ : ∃ y, lawSpots (codes x) (lawWords (codes x) (x.length + 1) 0) .out = y := ⟨_, rfl⟩
    rw [hS1] at hD1
    cases hD1 with
    | @list a₁ vs₁ n₁ _ hm₁ hD1 =>
      k_steps
      refine Stop.mk ?_
      (rename Fr _ _ _ _ => F2); (rename News _ _ _ _ => N2)
      obtain ⟨M3, F3X⟩ := fr_letter F2 [(Str.ofString "some", _), (Str.ofString "spots", _)] (List.forall_mem_cons.mpr ⟨rfl, List.forall_mem_cons.mpr ⟨rfl, fun _ h => nomatch h⟩⟩)
      clear F2; (rename Fr _ _ _ _ => F2)
      refine Says.useD (told_spots_says _ _ _ _ x _ (by omega)) G F2 N2 rfl rfl (by decide) (by decide) ?_
      rintro r own₂ h₂ tk₂ F3 N3 hoff2 - - hD2
      (try clear F2); (try clear N2)
      obtain ⟨S2, hS2⟩ : ∃ y, told (codes x) (x.length + 1) 0 [] = y := ⟨_, rfl⟩
      rw [hS2] at hD2
      cases hD2 with
      | @list a₂ vs₂ n₂ _ hm₂ hD2 =>
        have hcx : codes x = ((vals.map piece).map codes).flatten := by rw [← hx]; exact codes_tjoin _
        have hSS : S2 = S1 := by rw [← hS2, ← hS1, ← codes_len x]; exact law_same vals hcx
        have hsl : S1.length ≤ 135 := by
          have := told_len (cs := codes x) (k := x.length + 1) (ah := []) (Nat.zero_le _)
          rw [hS2, hSS, codes_len] at this; omega
        have hok : ∀ p ∈ S1, Spot (codes x) p := by rw [← hSS, ← hS2]; exact told_ok (Nat.zero_le _)
        k_steps
        · refine Stop.mk ?_
          (rename Fr _ _ _ _ => F2); (rename News _ _ _ _ => N2)
          refine Says.useD (lines_told_says _ _ _ _ x _ (by omega)) G F2 N2 rfl rfl (by decide) (by decide) ?_
          rintro r own₃ h₃ tk₃ F3 N3 hoff3 - - hD3
          rw [hS2] at hD3
          (try clear F2); (try clear N2)
          cases hD3 with
          | @list a₃ vs₃ n₃ _ hm₃ hD3 =>
            have hF9 := F3
            k_steps
            refine Stop.mk ?_
            (rename Fr _ _ _ _ => F2); (rename News _ _ _ _ => N2)
            replace N2 := news_sub (b := _ :: _ :: (own₃ ++ (own₂ ++ (own₁ ++ [])))) N2 front4
            refine LCp.ListComp_P (F₀ := F2) (by with_unfolding_all rfl) (by decide) (by rfl) (by decide) (by rfl) (by rfl) (by decide) ?_
            k_steps
            (rename Fr _ _ _ _ => F4); (rename News _ _ _ _ => N4)
            have hlen : vs₁.length = S1.length := by rw [hD1.length, List.length_map]
            refine' LCp.SrcLP.ledger ?lgA2 ?lgB2 ?lgC2 ?lgD2 ?lgE2 ?lgF2
            case lgA2 => exact rfl
            case lgB2 => exact F4
            case lgC2 => exact N4
            case lgD2 => exact List.mem_cons_of_mem _ (List.mem_cons_of_mem _ (List.mem_append_right _ (List.mem_append_right _ (List.mem_append_left _ hm₁))))
            case lgE2 => rw [List.size_toArray]; exact Nat.le_trans (Nat.le_trans (Nat.le_of_eq hlen) hsl) (by decide : 135 ≤ sizeLine)
            intro g₂
            refine' restP_of (fun i ys => DatAll [] ys ((S1.take i).map fun p => Dat.int ((min (numLaw (((codes x).drop p.1).take (p.2 - p.1))) 65530 : Nat) : Int))) ?rpA2 ?rpB2 _ 0 [] ?rpC2 ?rpD2
            case rpC2 => exact Nat.add_zero _
            case rpD2 => exact DatAll.nil
            · intro i ys hi hJ v hv
              obtain ⟨p, hp, a₄, tb, te, nn, rfl, hm4⟩ := spot_at hD1 (i := i) (v := v) (by simpa using hv)
              have hS := hok p (List.mem_of_getElem? hp)
              refine ⟨_, _, _, _, _, rfl, List.mem_cons_of_mem _ (List.mem_cons_of_mem _ (List.mem_append_right _ (List.mem_append_right _ (List.mem_append_left _ hm4)))), rfl, rfl, ?_⟩
              intro I oI C oC D m₂ h tk E' hC hx1 hx2 F3 N3 off ne
              k_steps
              (rename (Txt.slice _ _ _).length ≤ _ => hsl2); (rename Fr _ _ _ _ => F4); (rename News _ _ _ _ => N4)
              refine Stop.mk ?_
              refine Says.useD (law_number_says _ _ _ _ _ _ (spot_figs hS) (by omega)) G F4 N4 rfl rfl (by decide) (by decide) ?_
              rintro r own₅ h₅ tk₅ F5 N5 - - - ⟨rfl, u₅, rfl⟩
              refine CompEnd.intro F5 N5 _ (fun p hp => hp) off (.inr ⟨_, List.mem_cons_of_mem _ (List.mem_cons_of_mem _ (List.mem_append_right _ (List.mem_append_right _ (List.mem_append_left _ hm₁)))), rfl, _, rfl⟩) ⟨rfl, ?_⟩
              rw [take_more hp, List.map_append, spot_slice hS, cut_codes]
              exact DatAll.append hJ (DatAll.one (DatIn.int _ _))
            · intro ys hJ D h tk F3 N3 off
              rw [List.take_of_length_le (by rw [List.size_toArray]; omega)] at hJ
              have hEq : (S2.map fun p => Dat.int ((numAt (codes x) p : Nat) : Int)) = S1.map fun p => Dat.int ((min (numLaw (((codes x).drop p.1).take (p.2 - p.1))) 65530 : Nat) : Int) := by
                rw [hSS]; exact List.map_congr_left fun p hp => by rw [numAt, num_same]
              k_steps
              (rename Fr _ _ _ _ => F5); (rename News _ _ _ _ => N5)
              refine ne_same N5 (List.mem_cons_of_mem _ (List.mem_cons_of_mem _ (List.mem_cons_of_mem _ (List.mem_append_left _ hm₃)))) rfl rfl hD3 (fun p hp => List.mem_cons_of_mem _ (List.mem_cons_of_mem _ (List.mem_cons_of_mem _ (List.mem_append_left _ hp)))) List.mem_cons_self rfl rfl hJ (fun _ hp => nomatch hp) (fun d hd => by obtain ⟨p, _, rfl⟩ := List.mem_map.mp hd; rfl) (fun d hd => by obtain ⟨p, _, rfl⟩ := List.mem_map.mp hd; rfl) (by show (4 + 3 : Nat) + 64 < cLine; decide) hEq ?_
              replace N5 := news_sub (b := _ :: _ :: own₁) N5 (List.forall_mem_cons.mpr ⟨List.mem_cons_of_mem _ List.mem_cons_self, List.forall_mem_cons.mpr ⟨List.mem_cons_of_mem _ (List.mem_cons_of_mem _ List.mem_cons_self), fun p hp => List.mem_cons_of_mem _ (List.mem_cons_of_mem _ (List.mem_cons_of_mem _ (List.mem_append_right _ (List.mem_append_right _ (List.mem_append_left _ hp)))))⟩⟩)
              (try clear F2); (try clear N2); (try clear F3); (try clear N3); (try clear F4); (try clear N4)
              k_steps
              refine Stop.mk ?_
              (rename News _ _ _ _ => N5)
              obtain ⟨k0, t0, hk0, hk1⟩ := ints_zero hI hv0
              have hl9 := News.isList N5 (List.mem_cons_of_mem _ List.mem_cons_self)
              refine subscriptTail_builtin hl9.typeIs slot_list_getitem.lookup (getItem_listL (x := .int k0 t0) hl9 (by decide) (by decide) hk0 ?_)
              have hk0' : 0 ≤ k0 := hv9 _ (List.mem_of_getElem? hk1)
              clear hI hv0 hvl hIl hk0 hk1
              k_steps
              refine Stop.mk ?_
              (rename Obj.IsDictOf _ _ _ => hd6); (rename PyProof.V.FlatPairs _ _ _ => hf6)
              obtain ⟨turn, kvs, D6, hdo, hfl, hturn, hgood, hsmall⟩ : ∃ (turn : Nat → Option Nat) (kvs : List (Int × Value)) (D6 : List (PyData × PyData)), Obj.IsDictOf (PySem.intKind PySem.Challenge.rw_pf0003_01.row.prog _) _ kvs ∧ PyProof.V.FlatPairs PyData.int kvs D6 ∧ (∀ k : Nat, Spec.lookup (PyData.int (k : Int)) D6 = (turn k).map fun (v : Nat) => PyData.int (v : Int)) ∧ (∀ k v, turn k = some v → Good v ∧ (codes (Str.ofString (toString (v : Int)))).length ≤ 5) ∧ (∀ k v, turn k = some v → v < 100000) := by
                exact ⟨turnF k0, _, _, hd6, hf6, fun k => turn_look hk0' _ _ _ _ _ _ _ _ k, turn_five hk0', turn_small hk0'⟩
              clear hd6 hf6 hk0' hEq hJ
              (with_reducible rename Fr _ _ _ _ => F5); (with_reducible rename News _ _ _ _ => N5)
              rename_i d0 _ _ lo0 _ ld0 _ od _ _ l0 _ ll0 D0 _ lD0 _ _ _ _ _
              replace N5 := news_sub (b := (l0, _) :: (d0, od) :: _ :: _ :: own₁) N5 (fun p hp => List.mem_cons_of_mem _ hp)
              have hch : ChainTo 0 S1 (codes x).length := by rw [← hSS, ← hS2]; exact told_chain (Nat.zero_le _)
              have hxc := codes_len x
              have hoffl : ∀ oA oC : Obj, ∀ p ∈ (d0, od) :: (_, oA) :: (_, oC) :: own₁, p.1 ≠ l0 := fun oA oC => List.forall_mem_cons.mpr ⟨Nat.ne_of_lt ll0.1, List.forall_mem_cons.mpr ⟨Nat.ne_of_lt ll0.2.1, List.forall_mem_cons.mpr ⟨Nat.ne_of_lt ll0.2.2.1, allLt_mem ll0.2.2.2⟩⟩⟩
              have hwl : (weave (codes x) turn S1 0).length ≤ 1000 := by have := weave_len hgood hch; omega
              have hoffd : ∀ oL oA oC : Obj, ∀ p ∈ (l0, oL) :: (_, oA) :: (_, oC) :: own₁, d0 ≠ p.1 := fun oL oA oC => List.forall_mem_cons.mpr ⟨Nat.ne_of_lt ll0.1, List.forall_mem_cons.mpr ⟨Nat.ne_of_gt ld0.1, List.forall_mem_cons.mpr ⟨Nat.ne_of_gt ld0.2.1, fun p hp => (allLt_mem ld0.2.2 p hp).symm⟩⟩⟩
              refine for_tuples (h₀ := T.heap) (xs := [(Str.ofString "begin", _), (Str.ofString "end", _)]) rfl (List.forall_mem_cons.mpr ⟨rfl, List.forall_mem_cons.mpr ⟨rfl, fun _ h => nomatch h⟩⟩) rfl ?_
              k_steps
              refine ⟨a₁, vs₁.toArray, n₁, _, _, LoopJ x S1 turn l0 d0 od _, rfl, rfl, F5, N5, ?_, ⟨0, _, _, _, [], _, rfl, rfl, rfl, rfl, rfl, Nat.zero_le _, hch, rfl, DatAll.nil⟩, ?_, ?_⟩
              · rintro i m nx ⟨a, ta, f, tf, ws, n, rfl, -⟩
                exact List.mem_cons_of_mem _ (List.mem_cons_of_mem _ (List.mem_cons_of_mem _ (List.mem_cons_of_mem _ hm₁)))
              · rintro i v m₁ nx I oI h tk hv ⟨a₅, ta, f₁, tf, ws, n, rfl, hq1, hq2, hq3, hq4, ha, hc1, hR, hDt⟩
                obtain ⟨p, hp, a₂, tb, te, nn, rfl, hm5⟩ := spot_at hD1 (i := i) (v := v) (by simpa using hv)
                have hS := hok p (List.mem_of_getElem? hp)
                refine ⟨a₂, [.int p.1 tb, .int p.2 te], nn, rfl, List.mem_cons_of_mem _ (List.mem_cons_of_mem _ (List.mem_cons_of_mem _ (List.mem_cons_of_mem _ hm5))), rfl, fun F3 N3 off Post hPost => ?_⟩
                replace F3 := kst_of F3 [(Str.ofString "turned", .ref d0), (Str.ofString "due", .str f₁ tf), (Str.ofString "told", .ref l0), (Str.ofString "at", .int a₅ ta), (Str.ofString "begin", .int p.1 tb), (Str.ofString "end", .int p.2 te)]
                  (List.forall_mem_cons.mpr ⟨hq1, List.forall_mem_cons.mpr ⟨hq2, List.forall_mem_cons.mpr ⟨hq3, List.forall_mem_cons.mpr ⟨hq4, List.forall_mem_cons.mpr ⟨rfl, List.forall_mem_cons.mpr ⟨rfl, fun _ h => nomatch h⟩⟩⟩⟩⟩⟩)
                have hi : i < S1.length := (List.getElem?_eq_some_iff.mp hp).1
                have hfll : f₁.length ≤ 1000 := by have := congrArg List.length hR; rw [List.length_append, codes_len] at this; omega
                have hwsl : ws.length ≤ 135 := by rw [hDt.length, List.length_map, List.length_take]; omega
                have offl : l0 ≠ I := off _ List.mem_cons_self
                clear F5 N5
                k_steps
                (with_reducible rename (Txt.slice _ _ _).length ≤ _ => hsl2); (with_reducible rename Fr _ _ _ _ => F4); (with_reducible rename News _ _ _ _ => N4)
                refine Stop.mk ?_
                refine Says.useD (law_number_says _ _ _ _ _ _ (spot_figs hS) (by omega)) G F4 N4 rfl rfl (by decide) (by decide) ?_
                rintro r own₅ h₅ tk₅ F6 N6 - - - ⟨rfl, u₅, rfl⟩
                rw [← num_same, spot_num hS]
                (try clear F4); (try clear N4); (try clear F3); (try clear N3)
                dsimp only [List.nil_append] at N6
                have hlk := hturn (numAt (codes x) p)
                k_steps
                refine Stop.mk ?_
                (with_reducible rename Fr _ _ _ _ => F4); (with_reducible rename News _ _ _ _ => N4)
                have F4X := kst_of F4 [(Str.ofString "turned", .ref d0), (Str.ofString "due", .str f₁ tf), (Str.ofString "told", .ref l0), (Str.ofString "at", .int a₅ ta), (Str.ofString "begin", .int p.1 tb), (Str.ofString "end", .int p.2 te), (Str.ofString "number", .int (numAt (codes x) p : Nat) u₅)]
                  (List.forall_mem_cons.mpr ⟨rfl, List.forall_mem_cons.mpr ⟨rfl, List.forall_mem_cons.mpr ⟨rfl, List.forall_mem_cons.mpr ⟨rfl, List.forall_mem_cons.mpr ⟨rfl, List.forall_mem_cons.mpr ⟨rfl, List.forall_mem_cons.mpr ⟨rfl, fun _ h => nomatch h⟩⟩⟩⟩⟩⟩⟩)
                clear F4 F6 N6
                have h2 := hS.2.1
                refine newd_join [(Str.ofString "turned", .ref d0), (Str.ofString "due", .str f₁ tf), (Str.ofString "told", .ref l0), (Str.ofString "at", .int a₅ ta), (Str.ofString "begin", .int p.1 tb), (Str.ofString "end", .int p.2 te)] (newAt (codes x) turn p) F4X N4 (fun Jn hJn => ?_) (fun s' hs' => ?_)
                · cases hT : turn (numAt (codes x) p) with
                  | none =>
                    rw [hT, Option.map_none] at hlk
                    k_steps
                    · (with_reducible rename (Option.isSome _ = true) => hbad); rw [hlk] at hbad; cases hbad
                    · (with_reducible rename Fr _ _ _ _ => F7); (with_reducible rename News _ _ _ _ => N7)
                      exact hJn _ (NewD.put F7 N7 rfl (by rw [newAt, hT, spot_slice hS, cut_codes]) rfl rfl rfl rfl rfl rfl)
                  | some v =>
                    rw [hT, Option.map_some] at hlk
                    have hv5 := hsmall _ _ hT
                    k_steps
                    · (with_reducible rename Fr _ _ _ _ => F7); (with_reducible rename News _ _ _ _ => N7)
                      exact hJn _ (NewD.put F7 N7 rfl (by rw [newAt, hT]) rfl rfl rfl rfl rfl rfl)
                    · (with_reducible rename (Option.isSome _ = false) => hbad); rw [hlk] at hbad; cases hbad
                · obtain ⟨h₆, tk₆, M₆, z, tz, rfl, F7, N7, hz⟩ := hs'
                  clear F4X N4
                  have hzl : z.length ≤ 1000 := by rw [← codes_len, hz]; exact new_short hgood hS.2.1 (by omega)
                  have hzf : ∀ c ∈ codes z, isFig c = true := by rw [hz]; exact new_figs hgood hS
                  have hw := weave_turn hp hc1 hS hR hz
                  have hD9 : ∀ u, DatAll [] (ws ++ [.int (numTold (codes z) : Int) u]) ((S1.take (i + 1)).map fun p => Dat.int ((numTold (newAt (codes x) turn p) : Nat) : Int)) := by
                    intro u
                    rw [take_more hp, List.map_append, hz]
                    exact DatAll.append hDt (DatAll.one (DatIn.int _ _))
                  k_steps
                  (with_reducible rename Fr _ _ _ _ => F8); (with_reducible rename News _ _ _ _ => N8)
                  refine Stop.mk ?_
                  refine Says.useD (law_number_says _ _ _ _ z tz hzf hzl) G F8 N8 rfl rfl (by decide) (by decide) ?_
                  rintro r own₇ h₇ tk₇ F8 N8 - - - ⟨rfl, u₇, rfl⟩
                  rw [← num_same]
                  (try clear F7); (try clear N7)
                  dsimp only [List.nil_append] at N8
                  replace N8 := news_sub (b := (I, oI) :: (l0, listOf ws.toArray n) :: _ :: _ :: _ :: own₁) N8 (fun p hp => List.mem_cons_of_mem _ hp)
                  k_steps
                  refine Stop.mk ?_
                  refine append_K F8 N8 (Upd.tail (off _ List.mem_cons_self).symm (Upd.head (hoffl _ _))) ?_ (by rw [List.size_toArray]; exact Nat.le_trans hwsl (by decide))
                  intro h₉ F9 N9
                  rw [List.push_toArray] at N9
                  (try clear F8); (try clear N8)
                  k_steps
                  (with_reducible rename Fr _ _ _ _ => F7); (with_reducible rename News _ _ _ _ => N7)
                  exact hPost .next _ (turn_next F7 N7 (List.forall_mem_cons.mpr ⟨offl, fun p hp => off p (List.mem_cons_of_mem _ hp)⟩) ⟨p.2, _, _, _, _, _, rfl, rfl, rfl, rfl, rfl, by omega, hw.2, hw.1, hD9 _⟩)
              · rintro m₁ nx h tk ⟨a₅, ta, f₁, tf, ws, n, rfl, hq1, hq2, hq3, hq4, ha, hc1, hR, hDt⟩ F3 N3
                have hi9 : S1.length ≤ vs₁.toArray.size := by rw [List.size_toArray, hlen]; exact Nat.le_refl _
                have hw := weave_end hi9 ha hR
                rw [List.take_of_length_le hi9] at hDt
                have hfll : f₁.length ≤ 1000 := by have := congrArg List.length hR; rw [List.length_append, codes_len] at this; omega
                have hwsl : ws.length ≤ 135 := by rw [hDt.length, List.length_map]; omega
                replace F3 := kst_of F3 [(Str.ofString "turned", .ref d0), (Str.ofString "due", .str f₁ tf), (Str.ofString "told", .ref l0), (Str.ofString "at", .int a₅ ta)]
                  (List.forall_mem_cons.mpr ⟨hq1, List.forall_mem_cons.mpr ⟨hq2, List.forall_mem_cons.mpr ⟨hq3, List.forall_mem_cons.mpr ⟨hq4, fun _ h => nomatch h⟩⟩⟩⟩)
                clear F5 N5
                k_steps
                (with_reducible rename Fr _ _ _ _ => F6); (with_reducible rename News _ _ _ _ => N6)
                refine Stop.mk ?_
                replace N6 := news_sub (b := [(d0, od)] ++ (l0, listOf ws.toArray n) :: _ :: _ :: own₁) N6 swap_sub
                refine Says.useDM (with_numbers_says _ _ _ _ x _ d0 od kvs D6 lo0 hdo hfl turn hturn hsmall (by omega)) G F6 N6 (fun p hp => by rw [List.mem_singleton.mp hp]; exact hoffd _ _ _) rfl rfl (by decide) (by decide) ?_
                rintro r own₇ h₇ tk₇ F7 N7 - - - ⟨rfl, u₇, y, rfl, hy⟩
                rw [hS2, hSS, ← hw] at hy
                (try clear F6); (try clear N6)
                generalize hdue : f₁ ++ Txt.slice x (some (a₅ : Int)) none = due at *
                obtain rfl : y = due := Str.ext' (Array.toList_inj.mp hy)
                have hdl : y.length ≤ 1000 := by rw [← codes_len, hw]; exact hwl
                k_steps
                (with_reducible rename Fr _ _ _ _ => F6); (with_reducible rename News _ _ _ _ => N6)
                refine Stop.mk ?_
                have hyc := codes_len y
                have hdr : (told (codes y) (y.length + 1) 0 []).map (fun p => Dat.int ((numAt (codes y) p : Nat) : Int)) = S1.map fun p => Dat.int ((numTold (newAt (codes x) turn p) : Nat) : Int) := by
                  have h1 := due_read (cs := codes x) (by rw [hcx]; exact pieces_nr vals) (fun k v hkv => (hgood k v hkv).1) (ds := codes y) (turn := turn) (by rw [hxc, hS2, hSS]; exact hw)
                  rw [hyc, hxc, hS2, hSS] at h1
                  have h2 := congrArg (List.map fun n : Nat => Dat.int (n : Int)) h1
                  rw [List.map_map, List.map_map] at h2
                  exact h2
                refine Says.useD (lines_told_says _ _ _ _ y _ (by omega)) G F6 N6 rfl rfl (by decide) (by decide) ?_
                rintro r own₈ h₈ tk₈ F7 N7 - - - hD8
                rw [hdr] at hD8
                (try clear F6); (try clear N6)
                cases hD8 with
                | @list a₈ vs₈ n₈ _ hm₈ hD8 =>
                  k_steps
                  rename_i d₆ _ o₆ F6 N6 hl6 lo6 _ _ hd6 hf6
                  refine Stop.mk ?_
                  refine Says.useDM (mv := [(d₆, o₆)]) (rest := own₈ ++ ([(d0, od)] ++ (l0, listOf ws.toArray n) :: _ :: _ :: own₁)) (with_numbers_says _ _ _ _ x _ d₆ o₆ [] [] lo6 hd6 hf6 (fun _ => none) (fun k => rfl) (fun k v h => nomatch h) (by omega)) G F6 N6 (fun p hp q hq => by rw [List.mem_singleton.mp hp]; exact (Nat.ne_of_lt (hl6 q hq)).symm) rfl rfl (by decide) (by decide) ?_
                  rintro r own₉ h₉ tk₉ F7 N7 - - - ⟨rfl, u₉, y₂, rfl, hy₂⟩
                  rw [hS2, hSS, weave_none hch, List.drop_zero] at hy₂
                  have e₂ : y₂ = x := Str.ext' (Array.toList_inj.mp hy₂)
                  subst y₂
                  (try clear F6); (try clear N6)
                  k_steps

end
end Mine
end

theorem PySem.Challenge.cw_pf0003_01_holds : PySem.Challenge.rw_pf0003_01.Holds := by
  exact Mine.law_walk
