import PyProof.Rows.All
import Wide.All
import OpenK.AllK
import Wide.FinOn
import HandS.ForMost
import HandS.Zip
import HandS.Walk
import KE.GoesEnum
import KE.GoesMore
import HandS.TupAny
import HandS.Style
import PyProof.InstNe
import HandS.ClsMeth
import HandS.SlotsOwn
import HandS.IterVal
import HandS.Star
import KE.KOpsOwn
import HandS.IsInst
import HandS.WordsExc
import HandS.WordsList
import HandS.ExcInit
import HandS.GenList
import HandS.Exc
import HandS.ExcOwn
import PyProof.ReprRoads
import PyProof.Rows.StrJoinMade
import PySem.Challenge.RW_risingread_k07_whole_carries
set_option Elab.async false
set_option linter.all false
set_option maxRecDepth 100000
set_option maxHeartbeats 4000000
/-! The mathematics: numerals of unlike bases, what a carry changes. -/
namespace K7
def prd : List Int → Int
  | [] => 1
  | b :: bs => b * prd bs
def wts : List Int → List Int
  | [] => []
  | _ :: bs => prd bs :: wts bs
def digs (v : Int) : List Int → List Int
  | [] => []
  | b :: bs => (v / prd bs) % b :: digs v bs
def Two (bs : List Int) : Prop := ∀ b ∈ bs, (2 : Int) ≤ b ∧ b ≤ 100
structure OkB (bs : List Int) : Prop where
  pos : 1 ≤ bs.length
  few : bs.length ≤ 4
  two : Two bs
theorem Two.tail {b : Int} {bs : List Int} (h : Two (b :: bs)) : Two bs := fun x hx => h x (List.mem_cons_of_mem _ hx)
theorem Two.head {b : Int} {bs : List Int} (h : Two (b :: bs)) : 2 ≤ b ∧ b ≤ 100 := h b (List.mem_cons_self ..)
theorem Two.drop {bs : List Int} (h : Two bs) (i : Nat) : Two (bs.drop i) := fun x hx => h x (List.mem_of_mem_drop hx)
theorem prd_pos : ∀ {bs : List Int}, Two bs → 0 < prd bs
  | [], _ => by simp [prd]
  | b :: bs, h => by
    have h1 := prd_pos h.tail
    have h2 := h.head.1
    exact Int.mul_pos (by omega) h1
theorem digs_len (v : Int) : ∀ bs : List Int, (digs v bs).length = bs.length
  | [] => rfl
  | b :: bs => by simp [digs, digs_len v bs]
theorem wts_len : ∀ bs : List Int, (wts bs).length = bs.length
  | [] => rfl
  | b :: bs => by simp [wts, wts_len bs]
theorem digs_get (v : Int) : ∀ {bs : List Int} {i : Nat} {b : Int}, bs[i]? = some b → (digs v bs)[i]? = some ((v / prd (bs.drop (i + 1))) % b)
  | [], i, b, h => by simp at h
  | c :: bs, 0, b, h => by
    have e : c = b := by simpa using h
    subst e
    simp [digs]
  | c :: bs, i + 1, b, h => by
    have ih := digs_get v (bs := bs) (i := i) (b := b) (by simpa using h)
    simpa [digs] using ih
theorem wts_get : ∀ {bs : List Int} {i : Nat} {b : Int}, bs[i]? = some b → (wts bs)[i]? = some (prd (bs.drop (i + 1)))
  | [], i, b, h => by simp at h
  | c :: bs, 0, b, h => by simp [wts]
  | c :: bs, i + 1, b, h => by
    have ih := wts_get (bs := bs) (i := i) (b := b) (by simpa using h)
    simpa [wts] using ih
/-- each digit is a digit -/
theorem digs_ok (v : Int) {bs : List Int} (h : Two bs) {i : Nat} {b : Int} (hb : bs[i]? = some b) : 0 ≤ (v / prd (bs.drop (i + 1))) % b ∧ (v / prd (bs.drop (i + 1))) % b < b := by
  have h2 := (h b (List.mem_of_getElem? hb)).1
  exact ⟨Int.emod_nonneg _ (by omega), Int.emod_lt_of_pos _ (by omega)⟩
theorem prd_le : ∀ {bs : List Int}, Two bs → prd bs ≤ 100 ^ bs.length
  | [], _ => by simp [prd]
  | b :: bs, h => by
    have h1 := prd_le h.tail
    have h0 := prd_pos h.tail
    have h2 := h.head
    show b * prd bs ≤ 100 ^ (bs.length + 1)
    rw [Int.pow_succ, Int.mul_comm (100 ^ bs.length) 100]
    exact Int.mul_le_mul h2.2 h1 (by omega) (by omega)
theorem pow4 : ∀ {n : Nat}, n ≤ 4 → (100 : Int) ^ n ≤ 100000000
  | 0, _ => by decide
  | 1, _ => by decide
  | 2, _ => by decide
  | 3, _ => by decide
  | 4, _ => by decide
  | n + 5, h => by omega
theorem OkB.room {bs : List Int} (h : OkB bs) : prd bs ≤ 100000000 := Int.le_trans (prd_le h.two) (pow4 h.few)
theorem OkB.gt {bs : List Int} (h : OkB bs) : 2 ≤ prd bs := by
  cases bs with
  | nil => have := h.pos; simp at this
  | cons b bs =>
    have h0 := prd_pos h.two.tail
    have h2 := h.two.head.1
    show 2 ≤ b * prd bs
    have := Int.mul_le_mul h2 (show 1 ≤ prd bs by omega) (by omega) (by omega)
    omega
theorem wts_le {bs : List Int} (h : Two bs) {i : Nat} {b : Int} (hb : bs[i]? = some b) : 1 ≤ prd (bs.drop (i + 1)) := prd_pos (h.drop _)
/-- the weight of a place divides what there are -/
theorem wts_room : ∀ {bs : List Int} {w : Int}, Two bs → w ∈ wts bs → 1 ≤ w ∧ w ≤ prd bs
  | [], w, _, h => by simp [wts] at h
  | b :: bs, w, ht, h => by
    have h0 := prd_pos ht.tail
    have h2 := ht.head.1
    have hle : prd bs ≤ b * prd bs := by
      have := Int.mul_le_mul (show 1 ≤ b by omega) (Int.le_refl (prd bs)) (by omega) (by omega)
      omega
    rcases List.mem_cons.mp h with e | h
    · subst e
      exact ⟨by omega, hle⟩
    · obtain ⟨h1, h3⟩ := wts_room ht.tail h
      exact ⟨h1, Int.le_trans h3 hle⟩

/-! ### up by one -/
theorem up_div {v w : Int} (hv : 0 ≤ v) (hw : 0 < w) : (v + 1) / w = if (v + 1) % w = 0 then v / w + 1 else v / w := by
  have e1 := Int.emod_add_mul_ediv v w
  have e2 := Int.emod_add_mul_ediv (v + 1) w
  have a1 := Int.emod_nonneg v (show w ≠ 0 by omega)
  have a2 := Int.emod_lt_of_pos v hw
  have b1 := Int.emod_nonneg (v + 1) (show w ≠ 0 by omega)
  have b2 := Int.emod_lt_of_pos (v + 1) hw
  split
  · rename_i h0
    have h3 : (v + 1) / w = v / w + 1 := by
      have q1 : w * ((v + 1) / w - (v / w)) = v % w + 1 := by rw [Int.mul_sub]; omega
      have q2 : v % w + 1 ≤ w := by omega
      rcases Int.lt_trichotomy ((v + 1) / w - v / w) 1 with q | q | q
      · have : (v + 1) / w - v / w ≤ 0 := by omega
        have := Int.mul_le_mul_of_nonneg_left this (show 0 ≤ w by omega)
        omega
      · omega
      · have : 2 ≤ (v + 1) / w - v / w := by omega
        have := Int.mul_le_mul_of_nonneg_left this (show 0 ≤ w by omega)
        omega
    exact h3
  · rename_i h0
    have q1 : w * ((v + 1) / w - (v / w)) = v % w + 1 - (v + 1) % w := by rw [Int.mul_sub]; omega
    rcases Int.lt_trichotomy ((v + 1) / w - v / w) 0 with q | q | q
    · have : (v + 1) / w - v / w ≤ -1 := by omega
      have := Int.mul_le_mul_of_nonneg_left this (show 0 ≤ w by omega)
      omega
    · omega
    · have : 1 ≤ (v + 1) / w - v / w := by omega
      have := Int.mul_le_mul_of_nonneg_left this (show 0 ≤ w by omega)
      omega
/-- the places at which two rows differ -/
def chgs (xs ys : List Int) : List Nat := (List.range xs.length).filter fun i => !decide (xs.getD i 0 = ys.getD i 0)
theorem mem_chgs {xs ys : List Int} {i : Nat} : i ∈ chgs xs ys ↔ i < xs.length ∧ xs.getD i 0 ≠ ys.getD i 0 := by
  simp [chgs, List.mem_filter]
theorem range_tail (n : Nat) : List.range (n + 1) = 0 :: (List.range n).map (· + 1) := by
  rw [List.range_succ_eq_map]
theorem chgs_cons (x y : Int) (xs ys : List Int) : chgs (x :: xs) (y :: ys) = (if x = y then [] else [0]) ++ (chgs xs ys).map (· + 1) := by
  unfold chgs
  rw [List.length_cons, range_tail, List.filter_cons, List.filter_map]
  have e : ((fun i => !decide ((x :: xs).getD i 0 = (y :: ys).getD i 0)) ∘ fun i => i + 1) = fun i => !decide (xs.getD i 0 = ys.getD i 0) := by
    funext i
    simp
  rw [e]
  by_cases h : x = y
  · simp [h]
  · simp [h]
/-- all digits of a multiple of what there are are 0 -/
theorem digs_zero : ∀ {bs : List Int} {u : Int}, Two bs → u % prd bs = 0 → ∀ d ∈ digs u bs, d = 0
  | [], u, _, _ => by simp [digs]
  | b :: bs, u, ht, h => by
    intro d hd
    have h0 := prd_pos ht.tail
    have hb := ht.head.1
    have hdv : b * prd bs ∣ u := Int.dvd_of_emod_eq_zero h
    have hdw : prd bs ∣ u := Int.dvd_trans ⟨b, by rw [Int.mul_comm]⟩ hdv
    rcases List.mem_cons.mp hd with e | hd
    · obtain ⟨k, hk⟩ := hdv
      subst e
      have : u / prd bs = b * k := by
        rw [hk, Int.mul_comm b (prd bs), Int.mul_assoc, Int.mul_ediv_cancel_left _ (by omega)]
      rw [this, Int.mul_emod_right]
    · exact digs_zero ht.tail (Int.emod_eq_zero_of_dvd hdw) d hd
/-- what a carry does: the highest place that changes goes up by one, the lower ones become 0 -/
theorem carry_does : ∀ {bs : List Int} {v : Int}, Two bs → 0 ≤ v → (v + 1) % prd bs ≠ 0 →
    ∃ h tl, chgs (digs v bs) (digs (v + 1) bs) = h :: tl ∧ (digs (v + 1) bs).getD h 0 = (digs v bs).getD h 0 + 1 ∧ ∀ j ∈ tl, (digs (v + 1) bs).getD j 0 = 0
  | [], v, _, _, h => absurd (by simp [prd]) h
  | b :: bs, v, ht, hv, h => by
    have h0 := prd_pos ht.tail
    have hb := ht.head.1
    have hup := up_div (w := prd bs) hv h0
    show ∃ h tl, chgs ((v / prd bs) % b :: digs v bs) (((v + 1) / prd bs) % b :: digs (v + 1) bs) = h :: tl ∧ _
    rw [chgs_cons]
    by_cases hz : (v + 1) % prd bs = 0
    · rw [if_pos hz] at hup
      have hn : ((v + 1) / prd bs) % b ≠ 0 := fun q => h (by
        obtain ⟨m, hm⟩ := Int.dvd_of_emod_eq_zero q
        obtain ⟨n, hn⟩ := Int.dvd_of_emod_eq_zero hz
        have : (v + 1) / prd bs = n := by rw [hn, Int.mul_ediv_cancel_left _ (by omega)]
        refine Int.emod_eq_zero_of_dvd ⟨m, ?_⟩
        show v + 1 = b * prd bs * m
        rw [hn, ← this, hm, Int.mul_comm b (prd bs), Int.mul_assoc])
      have e1 := Int.emod_nonneg (v / prd bs) (show b ≠ 0 by omega)
      have e2 := Int.emod_lt_of_pos (v / prd bs) (show 0 < b by omega)
      have e3 : ((v + 1) / prd bs) % b = (v / prd bs) % b + 1 := by
        rw [hup] at hn ⊢
        rw [Int.add_emod, Int.emod_eq_of_lt (a := 1) (by omega) (by omega)] at hn ⊢
        by_cases q : (v / prd bs) % b + 1 < b
        · rw [Int.emod_eq_of_lt (by omega) q]
        · have q2 : (v / prd bs) % b + 1 = b := by omega
          rw [q2, Int.emod_self] at hn
          exact absurd rfl hn
      have ne : ¬ (v / prd bs) % b = ((v + 1) / prd bs) % b := by omega
      rw [if_neg ne]
      refine ⟨0, (chgs (digs v bs) (digs (v + 1) bs)).map (· + 1), rfl, by simpa [digs] using e3, fun j hj => ?_⟩
      obtain ⟨i, hi, rfl⟩ := List.mem_map.mp hj
      have hi' := (mem_chgs.mp hi).1
      rw [digs_len] at hi'
      have hl : i < (digs (v + 1) bs).length := by rw [digs_len]; exact hi'
      show ((((v + 1) / prd bs) % b :: digs (v + 1) bs)).getD (i + 1) 0 = 0
      rw [List.getD_cons_succ]
      rw [List.getD_eq_getElem?_getD, List.getElem?_eq_getElem hl]
      exact digs_zero ht.tail hz _ (List.getElem_mem hl)
    · rw [if_neg hz] at hup
      rw [hup, if_pos rfl]
      obtain ⟨h', tl, e1, e2, e3⟩ := carry_does ht.tail hv hz
      refine ⟨h' + 1, tl.map (· + 1), by rw [e1]; rfl, by simpa [digs] using e2, fun j hj => ?_⟩
      obtain ⟨i, hi, rfl⟩ := List.mem_map.mp hj
      simpa [digs] using e3 i hi
theorem carry_at {bs : List Int} {v : Int} (hb : OkB bs) (hv : 0 ≤ v) (hr : v + 1 < prd bs) :
    ∃ h tl, chgs (digs v bs) (digs (v + 1) bs) = h :: tl ∧ (digs (v + 1) bs).getD h 0 = (digs v bs).getD h 0 + 1 ∧ ∀ j ∈ tl, (digs (v + 1) bs).getD j 0 = 0 :=
  carry_does hb.two hv (by rw [Int.emod_eq_of_lt (by omega) hr]; omega)
/-- a place changes as its weight comes round -/
theorem chg_iff {bs : List Int} {v : Int} (hb : Two bs) (hv : 0 ≤ v) {i : Nat} {b : Int} (hi : bs[i]? = some b) :
    (v + 1) / prd (bs.drop (i + 1)) - v / prd (bs.drop (i + 1)) = if i ∈ chgs (digs v bs) (digs (v + 1) bs) then 1 else 0 := by
  have hw := prd_pos (hb.drop (i + 1))
  have h2 := (hb b (List.mem_of_getElem? hi)).1
  have hup := up_div (w := prd (bs.drop (i + 1))) hv hw
  have hl : i < bs.length := (List.getElem?_eq_some_iff.mp hi).1
  have g1 : (digs v bs).getD i 0 = (v / prd (bs.drop (i + 1))) % b := by rw [List.getD_eq_getElem?_getD, digs_get v hi]; rfl
  have g2 : (digs (v + 1) bs).getD i 0 = ((v + 1) / prd (bs.drop (i + 1))) % b := by rw [List.getD_eq_getElem?_getD, digs_get (v + 1) hi]; rfl
  by_cases hz : (v + 1) % prd (bs.drop (i + 1)) = 0
  · rw [if_pos hz] at hup
    have : i ∈ chgs (digs v bs) (digs (v + 1) bs) := by
      refine mem_chgs.mpr ⟨by rw [digs_len]; exact hl, ?_⟩
      rw [g1, g2, hup]
      intro q
      have e1 := Int.emod_nonneg (v / prd (bs.drop (i + 1))) (show b ≠ 0 by omega)
      have e2 := Int.emod_lt_of_pos (v / prd (bs.drop (i + 1))) (show 0 < b by omega)
      rw [Int.add_emod, Int.emod_eq_of_lt (a := 1) (by omega) (by omega)] at q
      by_cases q1 : (v / prd (bs.drop (i + 1))) % b + 1 < b
      · rw [Int.emod_eq_of_lt (by omega) q1] at q; omega
      · have q2 : (v / prd (bs.drop (i + 1))) % b + 1 = b := by omega
        rw [q2, Int.emod_self] at q; omega
    rw [if_pos this, hup]; omega
  · rw [if_neg hz] at hup
    have : i ∉ chgs (digs v bs) (digs (v + 1) bs) := fun q => by
      have := (mem_chgs.mp q).2
      rw [g1, g2, hup] at this
      exact this rfl
    rw [if_neg this, hup]; omega
theorem chgs_nodup (xs ys : List Int) : (chgs xs ys).Nodup := List.Nodup.sublist List.filter_sublist List.nodup_range
theorem chgs_lt {xs ys : List Int} {i : Nat} (h : i ∈ chgs xs ys) : i < xs.length := (mem_chgs.mp h).1
theorem chgs_len {xs ys : List Int} : (chgs xs ys).length ≤ xs.length := by
  unfold chgs
  exact Nat.le_trans (List.length_filter_le _ _) (by simp)
end K7

/-! The loops' steps. -/
namespace K7
theorem suf_succ {bs : List Int} {i : Nat} {b : Int} (h : bs.reverse[i]? = some b) : bs.drop (bs.length - (i + 1)) = b :: bs.drop (bs.length - i) := by
  have hi : i < bs.length := by
    have := (List.getElem?_eq_some_iff.mp h).1
    simpa using this
  rw [List.getElem?_reverse hi] at h
  have e : bs.length - (i + 1) = bs.length - 1 - i := by omega
  have e2 : bs.length - i = (bs.length - 1 - i) + 1 := by omega
  rw [e, e2]
  obtain ⟨h1, h2⟩ := List.getElem?_eq_some_iff.mp h
  rw [List.drop_eq_getElem_cons h1, h2]
theorem suf_zero (bs : List Int) : bs.drop (bs.length - 0) = [] := by simp
theorem suf_all (bs : List Int) : bs.drop (bs.length - bs.length) = bs := by simp
theorem rev_mem {bs : List Int} {i : Nat} {b : Int} (h : bs.reverse[i]? = some b) : b ∈ bs := by
  have := List.mem_of_getElem? h
  simpa using this
theorem drop_at {bs : List Int} {i : Nat} {b : Int} (h : bs[i]? = some b) : bs.drop i = b :: bs.drop (i + 1) := by
  obtain ⟨h1, h2⟩ := List.getElem?_eq_some_iff.mp h
  rw [List.drop_eq_getElem_cons h1, h2]
theorem div_more {v b p : Int} (hp : 0 < p) : v / p / b = v / (b * p) := by
  rw [Int.mul_comm, Int.ediv_ediv_of_nonneg (by omega)]
/-- value * base + digit -/
theorem gather_step {v b p : Int} (hp : 0 < p) : v / (b * p) * b + (v / p) % b = v / p := by
  rw [← div_more hp]
  have := Int.emod_add_mul_ediv (v / p) b
  rw [Int.mul_comm] 
  omega
theorem wts_head {b : Int} {bs : List Int} : (wts (b :: bs))[0]? = some (prd bs) := rfl
end K7

/-! What a row's carries change in all. -/
namespace K7
def bump (xs : List Int) : List Nat → List Int
  | [] => xs
  | j :: js => bump (xs.set j (xs.getD j 0 + 1)) js
theorem bump_len : ∀ (js : List Nat) (xs : List Int), (bump xs js).length = xs.length
  | [], _ => rfl
  | j :: js, xs => by
    show (bump (xs.set j _) js).length = _
    rw [bump_len js, List.length_set]
theorem set_getD (xs : List Int) (j i : Nat) (y : Int) (hj : j < xs.length) : (xs.set j y).getD i 0 = if i = j then y else xs.getD i 0 := by
  rw [List.getD_eq_getElem?_getD, List.getD_eq_getElem?_getD]
  by_cases e : i = j
  · subst e
    rw [if_pos rfl, List.getElem?_set_self hj]
    rfl
  · rw [if_neg e, List.getElem?_set_ne (Ne.symm e)]
theorem bump_get : ∀ (js : List Nat) (xs : List Int) (i : Nat), js.Nodup → (∀ j ∈ js, j < xs.length) → (bump xs js).getD i 0 = xs.getD i 0 + if i ∈ js then 1 else 0
  | [], xs, i, _, _ => by simp [bump]
  | j :: js, xs, i, hn, hj => by
    obtain ⟨h1, h2⟩ := List.nodup_cons.mp hn
    have hjl := hj j List.mem_cons_self
    show (bump (xs.set j (xs.getD j 0 + 1)) js).getD i 0 = _
    rw [bump_get js _ i h2 (fun m hm => by rw [List.length_set]; exact hj m (List.mem_cons_of_mem _ hm)), set_getD _ _ _ _ hjl]
    by_cases e : i = j
    · subst e
      rw [if_pos rfl, if_neg h1, if_pos List.mem_cons_self]
      omega
    · have e2 : (i ∈ j :: js) ↔ i ∈ js := by simp [e]
      rw [if_neg e]
      by_cases c : i ∈ js
      · rw [if_pos c, if_pos (e2.mpr c)]
      · rw [if_neg c, if_neg (fun z => c (e2.mp z))]
theorem bump_snoc : ∀ (js : List Nat) (xs : List Int) (j : Nat), bump xs (js ++ [j]) = (bump xs js).set j ((bump xs js).getD j 0 + 1)
  | [], _, _ => rfl
  | k :: js, xs, j => bump_snoc js (xs.set k (xs.getD k 0 + 1)) j
/-- the changes from v up to v + m -/
def CH (bs : List Int) (v : Int) (m : Nat) : List Int := (wts bs).map fun w => (v + (m : Int)) / w - v / w
theorem CH_len (bs : List Int) (v : Int) (m : Nat) : (CH bs v m).length = bs.length := by
  unfold CH
  rw [List.length_map, wts_len]
theorem CH_zero (bs : List Int) (v : Int) : CH bs v 0 = List.replicate bs.length 0 := by
  unfold CH
  have e : (fun w => (v + ((0 : Nat) : Int)) / w - v / w) = fun _ : Int => (0 : Int) := by
    funext w
    simp
  rw [e, List.map_const', wts_len]
theorem CH_getD {bs : List Int} {v : Int} {m i : Nat} (hi : i < bs.length) : (CH bs v m).getD i 0 = (v + (m : Int)) / prd (bs.drop (i + 1)) - v / prd (bs.drop (i + 1)) := by
  have hb : bs[i]? = some bs[i] := List.getElem?_eq_getElem hi
  unfold CH
  rw [List.getD_eq_getElem?_getD, List.getElem?_map, wts_get hb]
  rfl
theorem ext_getD {xs ys : List Int} (hl : xs.length = ys.length) (h : ∀ i, i < xs.length → xs.getD i 0 = ys.getD i 0) : xs = ys := by
  apply List.ext_getElem hl
  intro i h1 h2
  have := h i h1
  rw [List.getD_eq_getElem?_getD, List.getD_eq_getElem?_getD, List.getElem?_eq_getElem h1, List.getElem?_eq_getElem h2] at this
  exact this
theorem CH_step {bs : List Int} {v : Int} (hb : Two bs) (hv : 0 ≤ v) (m : Nat) : bump (CH bs v m) (chgs (digs (v + (m : Int)) bs) (digs (v + (m : Int) + 1) bs)).reverse = CH bs v (m + 1) := by
  have nd : (chgs (digs (v + (m : Int)) bs) (digs (v + (m : Int) + 1) bs)).reverse.Nodup := (List.reverse_perm _).nodup_iff.mpr (chgs_nodup _ _)
  have lt : ∀ j ∈ (chgs (digs (v + (m : Int)) bs) (digs (v + (m : Int) + 1) bs)).reverse, j < (CH bs v m).length := fun j hj => by
    have := chgs_lt (List.mem_reverse.mp hj)
    rw [digs_len] at this
    rw [CH_len]
    exact this
  refine ext_getD (by rw [bump_len, CH_len, CH_len]) fun i hi => ?_
  rw [bump_len, CH_len] at hi
  rw [bump_get _ _ _ nd lt, CH_getD hi, CH_getD hi]
  have hbi : bs[i]? = some bs[i] := List.getElem?_eq_getElem hi
  have c := chg_iff hb (show 0 ≤ v + (m : Int) by omega) hbi
  have e : v + ((m + 1 : Nat) : Int) = v + (m : Int) + 1 := by omega
  rw [e]
  have mem : (i ∈ (chgs (digs (v + (m : Int)) bs) (digs (v + (m : Int) + 1) bs)).reverse) ↔ i ∈ chgs (digs (v + (m : Int)) bs) (digs (v + (m : Int) + 1) bs) := List.mem_reverse
  by_cases q : i ∈ chgs (digs (v + (m : Int)) bs) (digs (v + (m : Int) + 1) bs)
  · rw [if_pos q] at c
    rw [if_pos (mem.mpr q)]
    omega
  · rw [if_neg q] at c
    rw [if_neg (fun z => q (mem.mp z))]
    omega
end K7

/-! What a for walks here: enumerate of a tuple, zip of a list and a tuple. -/
namespace K7
open PySem PySem.Spec PyProof.Rows L2
open AutoSeq1 (wpAny_loadPart')

/-! ### enumerate(t), t a tuple -/
theorem enum_newT (l : Addr) (items : Array Value) (n : Nat) (dct : Option Addr) (sl : Array (Option Value)) :
    Meets (Builtin.«enumerate.__new__» ⟨[.type "enumerate", .ref l], []⟩) (fun _ R s => s.heap.get? l = some { cls := .type "tuple", dict := dct, data := .seq items n, slots := sl } ∧
      R (.ok (.ret (.ref (s.heap.push { cls := .type "tuple_iterator", data := .fields #[.ref l, .int 0 0] }).objs.size)))
        { s with heap := (s.heap.push { cls := .type "tuple_iterator", data := .fields #[.ref l, .int 0 0] }).push { cls := .type "enumerate", data := .fields #[.none, .bool false, .ref s.heap.objs.size, rawInt 0, .none, .none] } }) :=
  .of_wp fun prog w A R s h => by
    obtain ⟨hp, g, d, tk, os⟩ := s
    obtain ⟨hl, h⟩ := h
    have hsub := sub_enumerate
    have hL : Heap.IsTuple (Shared.heap ⟨hp, g, d, tk, os⟩) l items := ⟨_, hl, rfl, n, rfl⟩
    wp_walk using wpAny_loadPart' hl
    refine wpAny_stack_any fun st => wpAny_pure ?_
    split
    · rename_i c _ _ _ _ _
      cases (c == Value.type "enumerate")
      · wp_walk using wpAny_loadPart' hl, wpAny_pyIter_tuple hL
        exact ⟨_, rfl, h⟩
      · wp_walk using wpAny_loadPart' hl, wpAny_pyIter_tuple hL
        exact ⟨_, rfl, h⟩
    · wp_walk using wpAny_loadPart' hl, wpAny_pyIter_tuple hL
      exact ⟨_, rfl, h⟩
section
variable {prog : Program} {w : World} {A : Around} {E : Value → Shared → Prop} {s : Shared}
theorem call_enumT {l : Addr} {items : Array Value} {Q : Value → Shared → Prop} (hL : s.heap.IsTuple l items)
    (h : ∀ h', IsEnum h' (s.heap.objs.size + 1) s.heap.objs.size 0 .none → h'.IsTupleIter s.heap.objs.size l 0 → h'.objs.size = s.heap.objs.size + 2 →
      (∀ b o, s.heap.get? b = some o → h'.get? b = some o) → Q (.ref (s.heap.objs.size + 1)) { s with heap := h' }) :
    wpAny (model prog w) A (call (.type "enumerate") [.ref l]) Q E s := by
  obtain ⟨⟨c, dct, dt, sl⟩, hl, hc, n, hd⟩ := hL
  replace hc : c = .type "tuple" := hc
  replace hd : dt = .seq items n := hd
  subst hc hd
  refine callType_new F.called_enumerate (by decide) (F.typeCall_enumerate_1 _) (F.newCall_enumerate_1 _) (fun obj => F.args_object_init_2 obj _) F.entry_enumerate_new
    (enum_newT l items n dct sl) ⟨hl, ?_⟩
  have hz : (s.heap.push { cls := .type "tuple_iterator", data := .fields #[.ref l, .int 0 0] }).objs.size = s.heap.objs.size + 1 := Heap.size_push ..
  show _ ∧ _
  rw [hz]
  have he : IsEnum ((s.heap.push { cls := .type "tuple_iterator", data := .fields #[.ref l, .int 0 0] }).push
      { cls := .type "enumerate", data := .fields #[.none, .bool false, .ref s.heap.objs.size, rawInt 0, .none, .none] }) (s.heap.objs.size + 1) s.heap.objs.size 0 .none := by
    have q := Heap.get?_push_size (s.heap.push { cls := .type "tuple_iterator", data := .fields #[.ref l, .int 0 0] })
      (o := { cls := .type "enumerate", data := .fields #[.none, .bool false, .ref s.heap.objs.size, rawInt 0, .none, .none] }) rfl
    rw [hz] at q
    exact q
  exact ⟨⟨_, he, rfl⟩, h _ he ⟨_, Heap.get?_push_of_some _ (Heap.get?_push_size _ rfl), rfl, rfl⟩ (by rw [Heap.size_push, hz]) fun b o x => Heap.get?_push_of_some _ (Heap.get?_push_of_some _ x)⟩
end
/-- the tuple at a, each item in a new pair with its place -/
def IteT (K : PySem.W.Frag) (a : Addr) : It where
  go := fun i H => ∃ (xs : List V) (x : V), SqT K H a xs ∧ xs[i]? = some x
  yld := fun i H v H' => ∃ T x, v = .ref T ∧ H T = none ∧ H' = upd H T (.tup [.int (i : Nat), x]) ∧ ∀ xs, SqT K H a xs → xs[i]? = some x
  stop := fun i H => ∃ xs : List V, SqT K H a xs ∧ xs.length = i
theorem turn_enumT {P : Program} {w : World} {K : PySem.W.Frag} {elts : List Expr} {kk : Nat} {tpos : Pos} (a e it : Addr) :
    Turn P w K (.Tuple elts kk tpos) (IteT K a) [e, it] e (fun i h => (∃ old, IsEnum h e it ((i : Nat) : Int) old) ∧ h.IsTupleIter it a i ∧ e ≠ it ∧ a ≠ it ∧ a ≠ e) where
  mem := by simp
  obj := fun i h st b hb => by
    obtain ⟨⟨old, he⟩, ⟨o, ho, hc, hd⟩, _⟩ := st
    have e' : b = e ∨ b = it := by simpa using hb
    rcases e' with z | z
    · rw [z]; exact ⟨_, he, fun v q => nomatch q⟩
    · rw [z]; exact ⟨o, ho, fun v q => by rw [hd] at q; cases q⟩
  keep := fun i h h' st k => let ⟨⟨old, he⟩, hi, hne⟩ := st; ⟨⟨old, k e (by simp) _ he⟩, hi.at fun o q => k it (by simp) o q, hne⟩
  item := by
    intro X hP hw hK hc i pins s σ H E I hf st hg
    subst hP hw hK
    obtain ⟨⟨old, he⟩, hit, hne, hai, hae⟩ := st
    obtain ⟨xs, x, hq, hx⟩ := hg
    obtain ⟨its, rv, p, _⟩ := I.tuple hq
    obtain ⟨u, hu, ru⟩ := rv.get hx
    have hlt : i < its.toArray.size := by
      have h1 := (List.getElem?_eq_some_iff.mp hu).1
      simpa using h1
    have hel : e < s.heap.objs.size := Heap.lt_size he
    have hil : it < s.heap.objs.size := by
      obtain ⟨_, q, _⟩ := hit
      exact Heap.lt_size q
    have hef : e ∉ [it, a] := by simpa using ⟨hne, Ne.symm hae⟩
    refine wpAny_pyNext_enum_itemD (Draws.tuple (prog := X.prog) (w := X.w) (A := X.A.in1) (I.ok.hd hc) it a hai its.toArray) he ⟨hit, show s.heap.IsTuple a its.toArray from p⟩ hlt hne hef fun x' h' tk hx' ho st' hT hsz hk => ?_
    have eu : x' = u := by
      have h1 : its[i]? = some x' := by simpa using hx'
      rw [hu] at h1
      exact (Option.some.inj h1).symm
    subst eu
    obtain ⟨hit', _⟩ := st'
    refine ⟨_, rfl, wpAny_letOwnedTupleGo_enum (s := { s with heap := h', toks := tk + 1 }) ho fun h'' he' sb => ?_⟩
    have hT2 : h''.get? s.heap.objs.size = some { cls := .type "tuple", data := .seq #[.int i tk, x'] } := (sb.2 _ (Nat.ne_of_gt hel)).trans hT
    have new : ObjOk X.prog X.w (upd H s.heap.objs.size (.tup [.int (i : Nat), x])) h'' s.heap.objs.size (.tup [.int (i : Nat), x]) :=
      ⟨by show 2 ≤ sizeLine; decide, [.int i tk, x'], .cons ⟨_, rfl⟩ (.cons ru .nil), ⟨_, hT2, rfl, _, rfl⟩⟩
    have I1 : Inv X pins σ (upd H s.heap.objs.size (.tup [.int (i : Nat), x])) { s with heap := h'', toks := tk + 1 } :=
      I.turnedNew (ch := [e, it]) (fun b ob hb q => (sb.2 b (fun z => hb (by simp [z]))).trans (hk b ob (fun z => hb (by simp [z])) (fun z => hb (by simp [z])) q)) hf (Nat.le_refl _) new
    refine ⟨.ref s.heap.objs.size, _, I1, rfl, ⟨_, x, rfl, I.hok.fresh (Nat.le_refl _), rfl, fun ys hy => by rw [I.tuple_inj hy hq]; exact hx⟩, ⟨⟨x', ?_⟩, hit'.at fun o q => (sb.2 it (Ne.symm hne)).trans q, hne, hai, hae⟩, fun b hb => ?_⟩
    · have e1 : ((i + 1 : Nat) : Int) = (i : Int) + 1 := by omega
      rw [e1]
      exact he'
    · have hb' : b < s.heap.objs.size := by
        have e' : b = e ∨ b = it := by simpa using hb
        rcases e' with z | z
        · rw [z]; exact hel
        · rw [z]; exact hil
      rw [upd_ne (Nat.ne_of_lt hb')]
      exact (hf b hb).1
  done := by
    intro X hP hw hK hc i pins s σ H E I hf st hg
    subst hP hw hK
    obtain ⟨⟨old, he⟩, hit, hne, hai, hae⟩ := st
    obtain ⟨xs, hq, hx⟩ := hg
    obtain ⟨its, rv, p, _⟩ := I.tuple hq
    obtain ⟨f0, f1, f2, f3, f4, f5⟩ := hf it (by simp)
    have hl := rv.length
    have en : its.toArray.size = i := by simp; omega
    refine wpAny_pyNext_enum_endD (i := ((i : Nat) : Int)) (Draws.tuple (prog := X.prog) (w := X.w) (A := X.A.in1) (I.ok.hd hc) it a hai its.toArray) he ?_ fun h' eb => ⟨rfl, I.turned (t' := s.toks) (fun b o hb q => eb b o hb q) f0 f1 f3 f4 f5⟩
    rw [en]
    exact ⟨hit, show s.heap.IsTuple a its.toArray from p⟩
  self := fun A i s Q E st h => let ⟨⟨_, he⟩, _⟩ := st; wpAny_pyIter_enum he h
/-- enumerate of a list or of a tuple -/
def iEnumA (K : PySem.W.Frag) (ta : TA) : TI := fun σ H R => ta σ H fun vs H1 => ∃ a xs, vs = [.ref a] ∧ ((SqL K H1 a xs ∧ R (Ite K a) H1) ∨ (SqT K H1 a xs ∧ R (IteT K a) H1))
theorem pi_enumA {X : Cx} {e : Expr} {ta : TA} {p pos tpos : Pos} {elts : List Expr} {kk : Nat} (hg : Gl X "enumerate") (hm : X.mg "enumerate" = none) (ha : PA X [e] ta) (hs : starEach [e] X.env = [(false, eval e X.env)] := by rfl) :
    PI X (.Tuple elts kk tpos) (.Call (.Name "enumerate" p) [e] [] pos) (iEnumA X.K ta) := by
  refine ⟨fun pins s σ H R I h => ?_⟩
  refine Call_ (ld_blt I hg hm boot_enumerate (PyProof.Rows.callWith_type1 (thn (ha.run pos pins s σ H _ I h) fun us s1 ⟨vs, H1, I1, r1, q1⟩ => ?_) hs rfl))
  obtain ⟨a, xs, ex, q⟩ := q1
  subst ex
  cases r1 with
  | cons r rr =>
    cases rr
    cases r
    have fresh2 : ∀ b ∈ [s1.heap.objs.size + 1, s1.heap.objs.size], FpOk X pins H1 b := fun b hb => by
      have e' : b = s1.heap.objs.size + 1 ∨ b = s1.heap.objs.size := by simpa using hb
      have hle : s1.heap.objs.size ≤ b := by
        rcases e' with z | z
        · rw [z]; exact Nat.le_add_right _ _
        · rw [z]; exact Nat.le_refl _
      exact I1.fpOk hle (I1.hok.fresh hle)
    rcases q with ⟨hq, q⟩ | ⟨hq, q⟩
    · obtain ⟨its, rv, p', _⟩ := I1.list hq
      refine call_enumerate_list p'.isList fun h' he hit hsz hk => wpAny_pyIter_enum he ?_
      have I2 : Inv X pins σ H1 { s1 with heap := h' } := I1.kept (t' := s1.toks) hk
      exact ⟨s1.heap.objs.size + 1, [s1.heap.objs.size + 1, s1.heap.objs.size], _, _, H1, rfl, I2, turn_enum a (s1.heap.objs.size + 1) s1.heap.objs.size, ⟨⟨.none, he⟩, hit, Nat.succ_ne_self _⟩, fresh2, q⟩
    · obtain ⟨its, rv, p', _⟩ := I1.tuple hq
      have hal : a < s1.heap.objs.size := p'.lt
      refine call_enumT (show s1.heap.IsTuple a its.toArray from p') fun h' he hit hsz hk => wpAny_pyIter_enum he ?_
      have I2 : Inv X pins σ H1 { s1 with heap := h' } := I1.kept (t' := s1.toks) hk
      exact ⟨s1.heap.objs.size + 1, [s1.heap.objs.size + 1, s1.heap.objs.size], _, _, H1, rfl, I2, turn_enumT a (s1.heap.objs.size + 1) s1.heap.objs.size,
        ⟨⟨.none, he⟩, hit, Nat.succ_ne_self _, Nat.ne_of_lt hal, Nat.ne_of_lt (Nat.lt_succ_of_lt hal)⟩, fresh2, q⟩
theorem walk_enumT {K : PySem.W.Frag} {a : Addr} {xs : List V} : Walk (IteT K a) xs.length (fun H => SqT K H a xs) (YPair (fun i => some (.int (i : Nat))) (fun i => xs[i]?)) := by
  refine ⟨fun i _ hi q => ⟨xs, xs[i], q, by simp [hi]⟩, fun _ q => ⟨xs, q, rfl⟩, fun i H v H' _ q y => ?_⟩
  obtain ⟨T, x, h1, h2, h3, h4⟩ := y
  exact ⟨T, .int (i : Nat), x, h1, h2, h3, rfl, h4 xs q⟩

/-! ### zip(l, t), l a list, t a tuple -/
def ItzM (K : PySem.W.Frag) (a b : Addr) : It where
  go := fun i H => ∃ (xs ys : List V) (x y : V), SqL K H a xs ∧ SqT K H b ys ∧ xs[i]? = some x ∧ ys[i]? = some y
  yld := fun i H v H' => ∃ T x y, v = .ref T ∧ H T = none ∧ H' = upd H T (.tup [x, y]) ∧ (∀ xs, SqL K H a xs → xs[i]? = some x) ∧ ∀ ys, SqT K H b ys → ys[i]? = some y
  stop := fun i H => ∃ xs ys : List V, SqL K H a xs ∧ SqT K H b ys ∧ i ≤ xs.length ∧ i ≤ ys.length ∧ (i = xs.length ∨ i = ys.length)
theorem turn_zipM {P : Program} {w : World} {K : PySem.W.Frag} {elts : List Expr} {kk : Nat} {tpos : Pos} {a b z TI TO i1 i2 : Addr} (D : ZipSep2 z TI TO i1 i2 [i1, a] [i2, b]) :
    Turn P w K (.Tuple elts kk tpos) (ItzM K a b) [z, TI, TO, i1, i2] z (fun i h => IsZip h z TI TO .none ∧ IsTupOf2 h TI (.ref i1) (.ref i2) ∧ (∃ x y, IsTupOf2 h TO x y) ∧ h.IsListIter i1 a i ∧ h.IsTupleIter i2 b i) where
  mem := by simp
  obj := fun i h st c hc => by
    obtain ⟨hz, hTI, ⟨x, y, hTO⟩, ⟨o1, e1, _, d1⟩, ⟨o2, e2, _, d2⟩⟩ := st
    have e' : c = z ∨ c = TI ∨ c = TO ∨ c = i1 ∨ c = i2 := by simpa using hc
    rcases e' with q | q | q | q | q
    · rw [q]; exact ⟨_, hz, fun v q => nomatch q⟩
    · rw [q]; exact ⟨_, hTI, fun v q => nomatch q⟩
    · rw [q]; exact ⟨_, hTO, fun v q => nomatch q⟩
    · rw [q]; exact ⟨o1, e1, fun v q => by rw [d1] at q; cases q⟩
    · rw [q]; exact ⟨o2, e2, fun v q => by rw [d2] at q; cases q⟩
  keep := fun i h h' st k => by
    obtain ⟨hz, hTI, ⟨x, y, hTO⟩, h1, h2⟩ := st
    exact ⟨k z (by simp) _ hz, k TI (by simp) _ hTI, ⟨x, y, k TO (by simp) _ hTO⟩, h1.at fun o q => k i1 (by simp) o q, h2.at fun o q => k i2 (by simp) o q⟩
  item := by
    intro X hP hw hK hc i pins s σ H E I hf st hg
    subst hP hw hK
    obtain ⟨hz, hTI, ⟨x0, y0, hTO⟩, h1, h2⟩ := st
    obtain ⟨xs, ys, x, y, hqx, hqy, hx, hy⟩ := hg
    obtain ⟨its, rv, p, _⟩ := I.list hqx
    obtain ⟨its2, rv2, p2, _⟩ := I.tuple hqy
    obtain ⟨u, hu, ru⟩ := rv.get hx
    obtain ⟨u2, hu2, ru2⟩ := rv2.get hy
    have hzl : z < s.heap.objs.size := Heap.lt_size hz
    have l1 : i < its.toArray.size := by
      have q := (List.getElem?_eq_some_iff.mp hu).1
      simpa using q
    have l2 : i < its2.toArray.size := by
      have q := (List.getElem?_eq_some_iff.mp hu2).1
      simpa using q
    have na : a ≠ i1 := fun q => by
      obtain ⟨o1, e1, c1, _⟩ := h1
      obtain ⟨o2, e2, c2, _⟩ := p.isList
      rw [q, e1] at e2
      cases e2
      rw [c1] at c2
      exact absurd c2 (by decide +kernel)
    have nb : b ≠ i2 := fun q => by
      obtain ⟨o1, e1, c1, _⟩ := h2
      obtain ⟨o2, e2, c2, _⟩ := p2
      rw [q, e1] at e2
      cases e2
      rw [c1] at c2
      exact absurd c2 (by decide +kernel)
    refine wpAny_pyNext_zipD2_item D (Draws.list (prog := X.prog) (w := X.w) (A := X.A.in1) (I.ok.hd hc) i1 a na its.toArray) (Draws.tuple (prog := X.prog) (w := X.w) (A := X.A.in1) (I.ok.hd hc) i2 b nb its2.toArray)
      hz hTI hTO ⟨h1, p.isList⟩ ⟨h2, show s.heap.IsTuple b its2.toArray from p2⟩ l1 l2 fun x1 x2 h' tk y1 y2 z' TO' st1' st2' hT hsz hk => ?_
    have e1 : x1 = u := by
      have q : its[i]? = some x1 := by simpa using y1
      rw [hu] at q
      exact (Option.some.inj q).symm
    have e2 : x2 = u2 := by
      have q : its2[i]? = some x2 := by simpa using y2
      rw [hu2] at q
      exact (Option.some.inj q).symm
    subst e1 e2
    refine ⟨_, rfl, wpAny_letOwnedTupleGo_zip (s := { s with heap := h', toks := tk }) z' fun h'' z'' sb => ?_⟩
    have hT2 : h''.get? s.heap.objs.size = some { cls := .type "tuple", data := .seq #[x1, x2] } := (sb.2 _ (Nat.ne_of_gt hzl)).trans hT
    have new : ObjOk X.prog X.w (upd H s.heap.objs.size (.tup [x, y])) h'' s.heap.objs.size (.tup [x, y]) :=
      ⟨by show 2 ≤ sizeLine; decide, [x1, x2], .cons ru (.cons ru2 .nil), ⟨_, hT2, rfl, _, rfl⟩⟩
    have I1 : Inv X pins σ (upd H s.heap.objs.size (.tup [x, y])) { s with heap := h'', toks := tk } :=
      I.turnedNew (ch := [z, TI, TO, i1, i2]) (fun c o hb q => (sb.2 c (fun q' => hb (by simp [q']))).trans (hk c o (fun q' => hb (by simp [q'])) (fun q' => hb (by simp [q'])) (fun q' => hb (by simp [q'])) (fun q' => hb (by simp [q'])) q)) hf (Nat.le_refl _) new
    refine ⟨.ref s.heap.objs.size, _, I1, rfl, ⟨_, x, y, rfl, I.hok.fresh (Nat.le_refl _), rfl, fun l hl => by rw [I.list_inj hl hqx]; exact hx, fun l hl => by rw [I.tuple_inj hl hqy]; exact hy⟩, ⟨z'', ?_, ⟨x1, x2, ?_⟩, ?_, ?_⟩, fun c hcm => ?_⟩
    · exact (sb.2 _ D.TIz).trans (hk _ _ D.TIz D.TITO D.TIi1 D.TIi2 hTI)
    · exact (sb.2 _ D.TOz).trans TO'
    · exact st1'.1.at fun o q => (sb.2 _ (Ne.symm D.zi1)).trans q
    · exact st2'.1.at fun o q => (sb.2 _ (Ne.symm D.zi2)).trans q
    · have hlt : c < s.heap.objs.size := by
        have e' : c = z ∨ c = TI ∨ c = TO ∨ c = i1 ∨ c = i2 := by simpa using hcm
        rcases e' with q | q | q | q | q
        · rw [q]; exact hzl
        · rw [q]; exact Heap.lt_size hTI
        · rw [q]; exact Heap.lt_size hTO
        · rw [q]; obtain ⟨_, e1, _⟩ := h1; exact Heap.lt_size e1
        · rw [q]; obtain ⟨_, e2, _⟩ := h2; exact Heap.lt_size e2
      rw [upd_ne (Nat.ne_of_lt hlt)]
      exact (hf c hcm).1
  done := by
    intro X hP hw hK hc i pins s σ H E I hf st hg
    subst hP hw hK
    obtain ⟨hz, hTI, ⟨x0, y0, hTO⟩, h1, h2⟩ := st
    obtain ⟨xs, ys, hqx, hqy, hl1, hl2, hend⟩ := hg
    obtain ⟨its, rv, p, _⟩ := I.list hqx
    obtain ⟨its2, rv2, p2, _⟩ := I.tuple hqy
    have l1 := rv.length
    have l2 := rv2.length
    have na : a ≠ i1 := fun q => by
      obtain ⟨o1, e1, c1, _⟩ := h1
      obtain ⟨o2, e2, c2, _⟩ := p.isList
      rw [q, e1] at e2
      cases e2
      rw [c1] at c2
      exact absurd c2 (by decide +kernel)
    have nb : b ≠ i2 := fun q => by
      obtain ⟨o1, e1, c1, _⟩ := h2
      obtain ⟨o2, e2, c2, _⟩ := p2
      rw [q, e1] at e2
      cases e2
      rw [c1] at c2
      exact absurd c2 (by decide +kernel)
    refine wpAny_pyNext_zipD2_end D (Draws.list (prog := X.prog) (w := X.w) (A := X.A.in1) (I.ok.hd hc) i1 a na its.toArray) (Draws.tuple (prog := X.prog) (w := X.w) (A := X.A.in1) (I.ok.hd hc) i2 b nb its2.toArray)
      hz hTI hTO ⟨h1, p.isList⟩ ⟨h2, show s.heap.IsTuple b its2.toArray from p2⟩ (by simp; omega) (by simp; omega) (by simp; omega) fun h' tk hk => ⟨rfl, I.turnedL (t' := tk) (ch := [z, TI, TO, i1, i2]) (fun c o hb q =>
      hk c o (fun q' => hb (by simp [q'])) (fun q' => hb (by simp [q'])) (fun q' => hb (by simp [q'])) (fun q' => hb (by simp [q'])) q) hf⟩
  self := fun A i s Q E st h => wpAny_pyIter_zip st.1 h
/-- zip of two lists, of a list and a tuple -/
def iZipM (K : PySem.W.Frag) (ta : TA) : TI := fun σ H R => ta σ H fun vs H1 => ∃ a b xs ys, vs = [.ref a, .ref b] ∧ SqL K H1 a xs ∧ ((SqL K H1 b ys ∧ R (Itz K a b) H1) ∨ (SqT K H1 b ys ∧ R (ItzM K a b) H1))
theorem pi_zipM {X : Cx} {e e2 : Expr} {ta : TA} {p pos tpos : Pos} {elts : List Expr} {kk : Nat} (hg : Gl X "zip") (hm : X.mg "zip" = none) (ha : PA X [e, e2] ta)
    (hs : starEach [e, e2] X.env = (false, eval e X.env) :: starEach [e2] X.env := by rfl) (hpl : (backTo pos (starEach [e2] X.env)).any (·.1) = false := by rfl) :
    PI X (.Tuple elts kk tpos) (.Call (.Name "zip" p) [e, e2] [] pos) (iZipM X.K ta) := by
  refine ⟨fun pins s σ H R I h => ?_⟩
  refine Call_ (ld_blt I hg hm PyProof.Rows.boot_zip (PyProof.Rows.callWith_type1 (thn (ha.run pos pins s σ H _ I h) fun us s1 ⟨vs, H1, I1, r1, q1⟩ => ?_) hs hpl))
  obtain ⟨a, b, xs, ys, ex, hqx, q1⟩ := q1
  subst ex
  cases r1 with
  | cons r rr =>
    cases rr with
    | cons r' rr =>
      cases rr
      cases r
      cases r'
      have fresh5 : ∀ c, c ∈ [s1.heap.objs.size + 4, s1.heap.objs.size + 2, s1.heap.objs.size + 3, s1.heap.objs.size, s1.heap.objs.size + 1] → FpOk X pins H1 c := fun c hcm => by
        have e' : c = s1.heap.objs.size + 4 ∨ c = s1.heap.objs.size + 2 ∨ c = s1.heap.objs.size + 3 ∨ c = s1.heap.objs.size ∨ c = s1.heap.objs.size + 1 := by simpa using hcm
        have hle : s1.heap.objs.size ≤ c := by
          rcases e' with z | z | z | z | z
          · rw [z]; exact Nat.le_add_right _ _
          · rw [z]; exact Nat.le_add_right _ _
          · rw [z]; exact Nat.le_add_right _ _
          · rw [z]; exact Nat.le_refl _
          · rw [z]; exact Nat.le_add_right _ _
        exact I1.fpOk hle (I1.hok.fresh hle)
      obtain ⟨its, rv, p1, _⟩ := I1.list hqx
      rcases q1 with ⟨hqy, q⟩ | ⟨hqy, q⟩
      · obtain ⟨its2, rv2, p2, _⟩ := I1.list hqy
        refine call_zip_2 p1.isList p2.isList fun h' hz hTI hTO h1 h2 hsz hk => wpAny_pyIter_zip hz ?_
        have I2 : Inv X pins σ H1 { s1 with heap := h' } := I1.kept (t' := s1.toks) hk
        exact ⟨s1.heap.objs.size + 4, [s1.heap.objs.size + 4, s1.heap.objs.size + 2, s1.heap.objs.size + 3, s1.heap.objs.size, s1.heap.objs.size + 1], _, _, H1, rfl, I2, turn_zip (PySem.W.ktu_apart s1.heap.objs.size a b p1.lt p2.lt), ⟨hz, hTI, ⟨_, _, hTO⟩, h1, h2⟩, fresh5, q⟩
      · obtain ⟨its2, rv2, p2, _⟩ := I1.tuple hqy
        have la : a < s1.heap.objs.size := p1.lt
        have lb : b < s1.heap.objs.size := p2.lt
        refine zip_begins2 (begins_list a its.toArray) (begins_tuple b its2.toArray) p1.isList (show s1.heap.IsTuple b its2.toArray from p2) fun h' hz hTI hTO h1 h2 hsz hk => wpAny_pyIter_zip hz ?_
        have I2 : Inv X pins σ H1 { s1 with heap := h' } := I1.kept (t' := s1.toks) hk
        have sep := zip_sep2 (N := s1.heap.objs.size) (fp1 := [a]) (fp2 := [b]) (fun c hc => by rw [List.mem_singleton.mp hc]; exact la) (fun c hc => by rw [List.mem_singleton.mp hc]; exact lb)
        exact ⟨s1.heap.objs.size + 4, [s1.heap.objs.size + 4, s1.heap.objs.size + 2, s1.heap.objs.size + 3, s1.heap.objs.size, s1.heap.objs.size + 1], _, _, H1, rfl, I2, turn_zipM sep,
          ⟨hz, hTI, ⟨_, _, hTO⟩, ⟨_, h1, rfl, rfl⟩, ⟨_, h2, rfl, rfl⟩⟩, fresh5, q⟩
theorem walk_zipM {K : PySem.W.Frag} {a b : Addr} {xs ys : List V} {n : Nat} (hn : n = xs.length) (hl : xs.length = ys.length) : Walk (ItzM K a b) n (fun H => SqL K H a xs ∧ SqT K H b ys) (YPair (fun i => xs[i]?) (fun i => ys[i]?)) := by
  subst hn
  refine ⟨fun i _ hi q => ?_, fun _ q => ⟨xs, ys, q.1, q.2, Nat.le_refl _, by omega, .inl rfl⟩, fun i H v H' _ q y => ?_⟩
  · have h2 : i < ys.length := by omega
    exact ⟨xs, ys, xs[i], ys[i], q.1, q.2, by simp [hi], by simp [h2]⟩
  · obtain ⟨T, x, z, h1, h2, h3, h4, h5⟩ := y
    exact ⟨T, x, z, h1, h2, h3, h4 xs q.1, h5 ys q.2⟩
end K7

/-! Sequences, a list or a tuple: walked, turned round. -/
namespace K7
open PySem PySem.Spec PyProof.Rows L2 HT

/-- a walk over a list or a tuple -/
def iSeqA (K : PySem.W.Frag) (tl : TE) : TI := fun σ H R => tl σ H fun x H1 => ∃ a, x = .ref a ∧ (((∃ xs, SqL K H1 a xs) ∧ R (Itl K a) H1) ∨ ((∃ xs, SqT K H1 a xs) ∧ R (Itt K a) H1))
theorem pi_seqA {X : Cx} {tg l : Expr} {tl : TE} (hl : PE X l tl) : PI X tg l (iSeqA X.K tl) := by
  refine ⟨fun pins s σ H R I h => ?_⟩
  refine thn (hl.run pins s σ H _ I h) fun v s1 ⟨x, H1, I1, r1, q1⟩ => ?_
  obtain ⟨a, ex, q⟩ := q1
  subst ex
  cases r1
  have fresh1 : ∀ b ∈ [s1.heap.objs.size], FpOk X pins H1 b := fun b hb => by
    obtain rfl : b = s1.heap.objs.size := by simpa using hb
    exact I1.fpOk (Nat.le_refl _) (I1.hok.fresh (Nat.le_refl _))
  rcases q with ⟨⟨xs, hq⟩, q⟩ | ⟨⟨xs, hq⟩, q⟩
  · obtain ⟨its, rv, p, hz⟩ := I1.list hq
    exact wpAny_pyIter_list p.isList ⟨_, [_], _, _, H1, rfl, I1.kept (t' := s1.toks) fun b o e => Heap.get?_push_of_some _ e, turn_list a _, ⟨_, Heap.get?_push_size _ rfl, rfl, rfl⟩, fresh1, q⟩
  · obtain ⟨its, rv, p, hz⟩ := I1.tuple hq
    exact wpAny_pyIter_tuple (show s1.heap.IsTuple a its.toArray from p) ⟨_, [_], _, _, H1, rfl, I1.kept (t' := s1.toks) fun b o e => Heap.get?_push_of_some _ e, turn_tuple a _, ⟨_, Heap.get?_push_size _ rfl, rfl, rfl⟩, fresh1, q⟩

/-! ### t[::-1], t a tuple -/
section
variable {prog : Program} {w : World} {A : Around} {E : Value → Shared → Prop} {s : Shared}
theorem back_places (n : Nat) : Builtin.Slice.slicePlaces ((n : Int) - 1) (-1) (-1) = n := by
  unfold Builtin.Slice.slicePlaces
  have h1 : ¬ ((-1 : Int) > 0) := by decide
  rw [if_neg h1]
  by_cases h : (n : Int) - 1 > -1
  · rw [if_pos h, show (-(-1) : Int) = 1 by decide, Int.ediv_one]
    omega
  · rw [if_neg h]
    have : n = 0 := by omega
    subst this
    rfl
theorem applied_back {sl : Addr} {t : Tok} {n : Nat} {Q : Int × Int × Nat → Shared → Prop} (hs : s.heap.IsSliceOf sl .none .none (.int (-1) t)) (h : Q ((n : Int) - 1, -1, n) s) :
    wpAny (model prog w) A (Builtin.Slice.sliceApplied (.ref sl) (pure (n : Int))) Q E s := by
  obtain ⟨os, hos, hcs, hds⟩ := id hs
  unfold Builtin.Slice.sliceApplied Builtin.Slice.sliceFields
  refine wpAny_bind (wpAny_bind (wpAny_field hos hds (x := .none) rfl (wpAny_bind (wpAny_field hos hds (x := .none) rfl (wpAny_bind (wpAny_field hos hds (x := .int (-1) t) rfl (wpAny_pure ?_)))))))
  refine wpAny_bind (slicePart_int ?_)
  show wpAny _ _ (if ((-1 : Int) == 0) = true then _ else _) _ _ s
  rw [if_neg (by decide)]
  refine wpAny_bind (slicePart_none (wpAny_bind (slicePart_none (wpAny_bind (wpAny_pure ?_)))))
  have e : Builtin.Slice.sliceAdjust none none (-1) (n : Int) = ((n : Int) - 1, (-1 : Int)) := rfl
  show wpAny _ _ (match Builtin.Slice.sliceAdjust none none (-1) (n : Int) with | (lo, hi) => pure (lo, (-1 : Int), Builtin.Slice.slicePlaces lo hi (-1))) _ _ s
  rw [e]
  show wpAny _ _ (pure ((n : Int) - 1, (-1 : Int), Builtin.Slice.slicePlaces ((n : Int) - 1) (-1) (-1))) _ _ s
  rw [back_places]
  exact wpAny_pure h
theorem back_pick (xs : Array Value) : ((List.range xs.size).filterMap fun (k : Nat) => xs[(((xs.size : Int) - 1) + (k : Int) * (-1)).toNat]?) = xs.toList.reverse := by
  have e : (fun (k : Nat) => xs[(((xs.size : Int) - 1) + (k : Int) * (-1)).toNat]?) = fun k => xs[xs.size - 1 - k]? := by
    funext k
    have : (((xs.size : Int) - 1) + (k : Int) * (-1)).toNat = xs.size - 1 - k := by omega
    rw [this]
  rw [e, ← PySem.W.krv_all xs, ← List.filterMap_reverse, ← PySem.W.krv_range, List.filterMap_map]
  rfl
theorem getItem_tuple_back {t sl : Addr} {items : Array Value} {tk : Tok} {Q : Value → Shared → Prop} (ht : IsTup s.heap t items) (hs : s.heap.IsSliceOf sl .none .none (.int (-1) tk))
    (h : Q (.ref s.heap.objs.size) { s with heap := s.heap.push { cls := .type "tuple", data := .seq items.toList.reverse.toArray } })
    (hsz : items.size ≤ sizeLine) : wpAny (model prog w) A (getItem (.ref t) (.ref sl)) Q E s := by
  have htake : sizeOk (.seq items.toList.reverse.toArray) := by
    show items.toList.reverse.toArray.size ≤ sizeLine
    rw [List.size_toArray, List.length_reverse, Array.length_toList]
    exact hsz
  obtain ⟨os, hos, hcs, hds⟩ := id hs
  have hTs : s.TypeIs (.ref sl) "slice" := ⟨os, hos, hcs⟩
  unfold getItem
  try with_reducible refine wpAny_holding ?_
  first | refine wpAny_bind (wpAny_pure ?_) | skip
  refine wpAny_bind (wpAny_sequenceKey ht.typeIs (by decide) ?_)
  refine wpAny_bind (wpAny_callSpecial?_slot (name := Str.ofString "__getitem__") ht.typeIs PyProof.Rows.slot_tuple_getitem
    (wpAny_call_entry PyProof.Rows.slot_tuple_getitem ht.typeIs entry_tuple_getitem ?_ (args_tuple_getitem _ _)))
  show wpAny _ _ (Builtin.Tuple.tupleItemsOf (.ref t) >>= _) _ _ s
  refine wpAny_bind (tupleItemsOf_ ht ?_)
  refine wpAny_bind (wpAny_typeOf hTs ?_)
  rw [if_pos (by decide)]
  refine wpAny_bind (applied_back hs ?_)
  show wpAny _ _ (if (((items.size : Int) - 1) == 0 && (-1 : Int) == 1 && items.size == items.size) = true then _ else _) _ _ s
  rw [if_neg (by simp), back_pick]
  first
    | exact wpAny_bind (m := Builtin.Tuple.tupleExact _) (wpAny_newObj_type (wpAny_pure ⟨_, rfl, wpAny_pure h⟩) htake)
    | exact wpAny_bind (m := Builtin.Tuple.tupleExact _) (wpAny_newObj_type (wpAny_bind (wpAny_pure (wpAny_pure ⟨_, rfl, wpAny_pure h⟩))) htake)
    | exact wpAny_bind (wpAny_bind (m := Builtin.Tuple.tupleExact _) (wpAny_newObj_type (wpAny_pure (wpAny_pure ⟨_, rfl, wpAny_pure h⟩)) htake))
    | exact wpAny_bind (wpAny_bind (m := Builtin.Tuple.tupleExact _) (wpAny_newObj_type (wpAny_pure ⟨_, rfl, wpAny_pure h⟩) htake))
end
/-- xs[::-1], a list or a tuple -/
def tRevA (K : PySem.W.Frag) (te : TE) : TE := fun σ H Q => te σ H fun x H1 => ∃ a xs, x = .ref a ∧
  ((SqL K H1 a xs ∧ ∀ p, H1 p = none → Q (.ref p) (upd H1 p (.lst xs.reverse))) ∨ (SqT K H1 a xs ∧ ∀ p, H1 p = none → Q (.ref p) (upd H1 p (.tup xs.reverse))))
theorem pe_revA {X : Cx} {e : Expr} {te : TE} {k : Nat} {p1 p2 p3 pos : Pos} (he : PE X e te) : PE X (.Subscript e (.Slice none none (some (.UnaryOp .USub (.Constant (.int 1) k p1) p2)) p3) pos) (tRevA X.K te) := by
  refine ⟨fun pins s σ H Q I h => ?_⟩
  refine Subscript_ (thn (he.run pins s σ H _ I h) fun v s1 ⟨x, H1, I1, r1, q1⟩ => ?_)
  obtain ⟨a, xs, ex, q⟩ := q1
  subst ex
  cases r1
  have hst : PO X (some (.UnaryOp .USub (.Constant (.int 1) k p1) p2)) (tPart (tUn (rU fun i => .int (-i)) (tC (.int 1)))) := po_some (pe_un un_neg pe_int)
  refine wpAny_Slice (thn (po_none.run pins s1 σ H1 (fun o H2 => o = none ∧ H2 = H1) I1 ⟨rfl, rfl⟩) fun vl s2 ⟨l, H2, I2, pl, el, e2⟩ => ?_)
  subst el e2
  refine thn (po_none.run pins s2 σ H2 (fun o H3 => o = none ∧ H3 = H2) I2 ⟨rfl, rfl⟩) fun vu s3 ⟨u, H3, I3, pu, eu, e3⟩ => ?_
  subst eu e3
  refine thn (hst.run pins s3 σ H3 (fun o H4 => o = some (-1) ∧ H4 = H3) I3 ⟨1, rfl, -1, rfl, rfl, rfl⟩) fun vs s4 ⟨o, H4, I4, ps, eo, e4⟩ => ?_
  subst eo e4
  have I5 : Inv X pins σ H4 { s4 with heap := s4.heap.push { cls := .type "slice", data := .fields #[vl, vu, vs] } } := I4.kept (t' := s4.toks) fun b ob q => Heap.get?_push_of_some _ q
  show wpAny (model X.prog X.w) X.A (subscriptTail e (.Slice none none (some (.UnaryOp .USub (.Constant (.int 1) k p1) p2)) p3) (.ref a) (.ref s4.heap.objs.size)) (EP X pins σ Q) X.xe { s4 with heap := s4.heap.push { cls := .type "slice", data := .fields #[vl, vu, vs] } }
  rcases q with ⟨hx, q⟩ | ⟨hx, q⟩
  · obtain ⟨its, r, ht, hz⟩ := I5.list hx
    have hlen := r.length
    refine tail_any (ops := [.ref a, .ref s4.heap.objs.size]) ht.isList.typeIs (PySem.slot_list_getitem.lookup) ?_ (by with_unfolding_all rfl)
    refine wpAny_getItem_list_slice ht.isList (Heap.IsSliceOf.new _ vl vu vs) pl pu ps (by decide) ?_ (by rw [List.size_toArray]; omega)
    rw [PySem.W.krv_pick]
    exact ⟨.ref _, _, I5.laid (t' := s4.toks) (o := .lst xs.reverse) (fun b ob q => Heap.get?_push_of_some _ q) (Nat.le_refl _) ⟨by rw [List.length_reverse]; exact hz, _, 0, r.reverse, Heap.get?_push_size _ rfl⟩, rfl, q _ (I5.hok.fresh (Nat.le_refl _))⟩
  · obtain ⟨its, r, ht, hz⟩ := I5.tuple hx
    have hlen := r.length
    cases pl
    cases pu
    cases ps
    refine tail_any (ops := [.ref a, .ref s4.heap.objs.size]) ht.typeIs (PyProof.Rows.slot_tuple_getitem.lookup) ?_ (by with_unfolding_all rfl)
    refine getItem_tuple_back ht (Heap.IsSliceOf.new _ _ _ _) ?_ (by rw [List.size_toArray]; omega)
    exact ⟨.ref _, _, I5.laid (t' := s4.toks) (o := .tup xs.reverse) (fun b ob q => Heap.get?_push_of_some _ q) (Nat.le_refl _) ⟨by rw [List.length_reverse]; exact hz, _, r.reverse, ⟨_, Heap.get?_push_size _ rfl, rfl, _, rfl⟩⟩, rfl, q _ (I5.hok.fresh (Nat.le_refl _))⟩
end K7

/-! Own operators of an instance: + with an int, ==, != by it, x[i], len(x), cls(..). -/
namespace K7
open PySem PySem.Spec PyProof.Rows L2 StX

theorem fnR_of {P : Program} {w : World} {K : PySem.W.Frag} {mg : Str → Option Value} {base : Heap} {CX : CXT} {k : Nat} {f : Addr} {fd : FuncData} {ps : List Str} {sp : Sp} (F : FnOk P w K mg base CX k f fd ps sp) (b : Binds K fd ps []) :
    FnR P w K mg base CX k f sp := (F.raw b .nil).imp fun vs H Q E h => by
  rw [List.append_nil]
  exact h

section
variable {M : Model} {A : Around} {E : Value → Shared → Prop} {s : Shared} {K : PySem.W.Frag} {x C L f : Addr} {ox : Obj} {od : Option Obj}
/-- the builtin that stands for a special method of the class, bound and called -/
theorem ifBound_B {name : Str} {id : String} {args : List Value} {Q : Option Value → Shared → Prop} (X : K.In s.heap) (I : PySem.W.InstAt s.heap x ox C od) (hs : PySem.W.findIn K (.ref C) name = some (some (.builtin id)))
    (hb : bindSpecial (.builtin id) (.ref x) = pure (.builtin id, [.ref x])) (h : wpAny M A (call (.builtin id) (.ref x :: args)) (fun v => Q (some v)) E s) : wpAny M A (callSpecialIfBound? (.ref x) name args) Q E s := by
  simp only [callSpecialIfBound?, bindSpecialIfBound?]
  refine wpAny_holding (wpAny_bind (wpAny_bind (wpAny_bind (I.type.here ((PySem.W.looks_findIn X hs).here ?_)))))
  refine wpAny_bind (wpAny_askSetting (wpAny_ite ?_))
  have fin : wpAny M A (call (.builtin id) ([.ref x] ++ args) >>= fun v => pure (some v)) Q E s := wpAny_bind (wpAny_mono h (fun v s' h' => wpAny_pure h') fun _ _ h' => h')
  rw [hb]
  split
  · exact wpAny_bind (wpAny_pure (wpAny_pure (by exact fin)))
  · exact wpAny_tryCatch (wpAny_bind (wpAny_pure (wpAny_pure (by exact fin))))
end
section
variable {prog : Program} {w : World} {A : Around} {E : Value → Shared → Prop} {s : Shared} {K : PySem.W.Frag} {x y C f : Addr} {ox oy : Obj} {od od' : Option Obj}
/-- object.__ne__ of an instance with its own __eq__ -/
theorem objNe_K {Q : Value → Shared → Prop} (X : K.In s.heap) (I : PySem.W.InstAt s.heap x ox C od) (he : PySem.W.findIn K (.ref C) "__eq__" = some (some (.ref f))) (hf : PySem.W.isFn K (.ref f) = true) (hu : A.units < cLine)
    (hcall : wpAny (model prog w) A (call (.ref f) [.ref x, .ref y]) (fun v s' => ∃ b, v = .bool b ∧ Q (.bool (!b)) s') E s) :
    wpAny (model prog w) A (Builtin.«object.__ne__» ⟨[.ref x, .ref y], []⟩) (fun fin s' => ∃ v, fin = .done (.ret v) ∧ Q v s') E s := by
  obtain ⟨hp, g, d, tk, os⟩ := s
  unfold Builtin.«object.__ne__»
  repeat (first
    | with_reducible refine wpAny_cRoomFor hu ?_
    | (refine wpAny_bind (m := callSpecialIfBound? (.ref x) (Str.ofString "__eq__") [.ref y])
        (PySem.W.ifBound_K X I he hf (wpAny_mono hcall (fun r s' hr => by
          obtain ⟨b, rfl, hq⟩ := hr
          repeat (first | exact ⟨_, rfl, hq⟩ | exact wpAny_pure ⟨_, rfl, hq⟩ | exact wpAny_truthy_bool ⟨_, rfl, hq⟩ | (refine wpAny_bind (m := truthy (.bool _)) (wpAny_truthy_bool ?_)) | wp_step)) fun _ _ e => e)))
    | wp_step)
/-- x != y where the class has its own __eq__ and no __ne__ -/
theorem ne_K {Q : Value → Shared → Prop} (hu : A.units + 1 < cLine) (X : K.In s.heap) (I : PySem.W.InstAt s.heap x ox C od) (J : PySem.W.InstAt s.heap y oy C od') (hne : PySem.W.findIn K (.ref C) "__ne__" = some (some (.builtin "object.__ne__")))
    (hso : PySem.W.subIn K (.ref C) (.type "object") = some true)
    (he : PySem.W.findIn K (.ref C) "__eq__" = some (some (.ref f))) (hf : PySem.W.isFn K (.ref f) = true)
    (hcall : wpAny (model prog w) A.in1 (call (.ref f) [.ref x, .ref y]) (fun v s' => ∃ b, v = .bool b ∧ Q (.bool (!b)) s') E s) : wpAny (model prog w) A (compareOp .NotEq (.ref x) (.ref y)) Q E s := by
  have hI : PySem.W.Looks (model prog w) s.heap (isInstance (.ref x) (.type "object")) true := by
    unfold isInstance
    exact I.type.andThen (PySem.W.looks_subIn X hso)
  have one : wpAny (model prog w) A (tryCompare (.ref x) "__ne__" (.ref y)) (fun r s' => ∃ v, r = some v ∧ Q v s') E s := by
    unfold tryCompare
    refine wpAny_bind (ifBound_B X I hne (PySem.F.cmp_object.ne.bind _) (wpAny_call (codeAny_call_builtin PySem.F.cmp_object.ne.plain PySem.F.cmpEntry_ne
      (PySem.W.check_slot PySem.F.cmpKind_ne PySem.F.cmpSplit_ne hI (PySem.F.cmpArgs_ne _ _) ?_))))
    refine wpAny_mono (objNe_K (A := A.in1) (Q := fun v s' => ∃ b, v = .bool b ∧ Q v s') X I he hf hu (wpAny_mono hcall (fun v s' hv => ?_) fun _ _ e => e)) (fun fin s' hfin => ?_) fun _ _ e => e
    · obtain ⟨b, rfl, hq⟩ := hv
      exact ⟨b, rfl, _, rfl, hq⟩
    · obtain ⟨v, rfl, b, rfl, hq⟩ := hfin
      first
        | exact ⟨_, rfl, wpAny_pure ⟨_, rfl, hq⟩⟩
        | exact wpAny_pure ⟨_, rfl, hq⟩
        | exact ⟨_, rfl, hq⟩
  unfold compareOp richCompare
  simp only [oneThing_ref]
  refine wpAny_holding (wpAny_bind (wpAny_cRoomFor (Nat.lt_of_succ_lt hu) ?_))
  rw [cmpInfo_NotEq]
  dsimp only
  refine wpAny_bind (I.type.here (wpAny_bind (J.type.here ?_)))
  rw [show (Value.ref C != Value.ref C) = false from by simp]
  simp only [Bool.false_eq_true, if_false]
  refine wpAny_bind (wpAny_pure ?_)
  simp only [Bool.false_eq_true, if_false]
  refine wpAny_bind (wpAny_mono one (fun r s' z => ?_) fun _ _ e => e)
  obtain ⟨v, rfl, hq⟩ := z
  exact wpAny_pure hq
end

section
variable {X : Cx} {CX : CXT} {pins : List (Addr × Obj)} {σ : L2.St} {H : Hp} {s : Shared} {a C dx g : Addr} {fs : List (Str × V)} {n : Nat} {sp : Sp} {E : XK}
theorem ins_inst (I : Inv X pins σ H s) (h : H a = some (.ins C dx fs)) : ∃ od, PySem.W.InstAt s.heap a (PySem.W.instObj C dx) C (some od) := by
  obtain ⟨mA, O, _⟩ := ins_get I.hok h
  obtain ⟨od, J, _⟩ := O.look
  exact ⟨od, J⟩
/-- x + i, x an instance of the class at C, i an int -/
def rAddI (C : Addr) (sp : Sp) (E : XK) : R2 := fun x y H Q => ∃ a dx fs i, x = .ref a ∧ y = .int i ∧ H a = some (.ins C dx fs) ∧ sp [x, y] H Q E
theorem op_addI {rc fo ro : Option Value} (hs : PySem.W.findIn X.K (.ref C) "__add__" = some (some (.ref g))) (hf : PySem.W.isFn X.K (.ref g) = true) (hc : PySem.W.selfFirst X.K C = true)
    (hr' : PySem.W.findIn X.K (.ref C) "__radd__" = some rc) (hp : rc = none ∨ ∃ g : Addr, rc = some (.ref g))
    (h1 : PySem.W.findIn X.K (.type "int") "__add__" = some fo) (h2 : PySem.W.findIn X.K (.type "int") "__radd__" = some ro) (hsub : PySem.W.subIn X.K (.type "int") (.ref C) = some false)
    (F : FnR X.prog X.w X.K X.mg X.base CX n g sp) (hr : Room n X.A) (hx : Passes CX X E) : OpR X (binaryOp .Add) (rAddI C sp E) := by
  intro pins s σ H x y v u Q I rx ry h
  obtain ⟨a, dx, fs, i, rfl, rfl, ha, q⟩ := h
  cases (show v = Value.ref a from rx)
  obtain ⟨t, eu⟩ := (show ∃ t, u = Value.int i t from ry)
  subst eu
  obtain ⟨od, J⟩ := ins_inst I ha
  obtain ⟨m, hF⟩ := I.fr
  refine PySem.W.ksp_binT (op := .Add) (T := "int") hF I.ok.mod.kin J rfl hc hs hf hr' hp h1 h2 hsub ?_
  refine wpAny_mono (wpAny_call (run_fnR (us := [.ref a, .int i t]) (vs := [.ref a, .int i]) F hr hx I (.cons rfl (.cons ⟨t, rfl⟩ .nil)) q)) (fun w s' z => ?_) fun _ _ x => x
  obtain ⟨z', H', I', rz, qz⟩ := z
  exact SlX.cmpback rz ⟨z', H', I', rz, qz⟩
/-- x == y, two instances of the class at C -/
def rEqOwn (C : Addr) (sp : Sp) (E : XK) : R2 := fun x y H Q => ∃ a dx fs b dy gs, x = .ref a ∧ y = .ref b ∧ H a = some (.ins C dx fs) ∧ H b = some (.ins C dy gs) ∧ sp [x, y] H Q E
theorem op_eqOwn (hs : PySem.W.findIn X.K (.ref C) "__eq__" = some (some (.ref g))) (hf : PySem.W.isFn X.K (.ref g) = true) (F : FnR X.prog X.w X.K X.mg X.base CX n g sp) (hr : Room n X.A) (hx : Passes CX X E) :
    OpR X (compareOp .Eq) (rEqOwn C sp E) := by
  intro pins s σ H x y v u Q I rx ry h
  obtain ⟨a, dx, fs, b, dy, gs, rfl, rfl, ha, hb, q⟩ := h
  cases (show v = Value.ref a from rx)
  cases (show u = Value.ref b from ry)
  obtain ⟨od, J⟩ := ins_inst I ha
  obtain ⟨od', J'⟩ := ins_inst I hb
  obtain ⟨m, hF⟩ := I.fr
  show wpAny _ _ (richCompare .Eq (.ref a) (.ref b)) _ _ _
  refine PySem.W.cmp_K (op := .Eq) (tb := .ref C) hr.units0 hF I.ok.mod.kin J J'.type (by unfold PySem.W.notFirst; simp) hs hf ?_
  refine wpAny_mono (wpAny_call (run_fnR (us := [.ref a, .ref b]) (vs := [.ref a, .ref b]) F hr hx I (.cons rfl (.cons rfl .nil)) q)) (fun w s' z => ?_) fun _ _ x => x
  obtain ⟨z', H', I', rz, qz⟩ := z
  exact SlX.cmpback rz ⟨z', H', I', rz, qz⟩
/-- x != y by its own == -/
def rNeOwn (C : Addr) (sp : Sp) (E : XK) : R2 := fun x y H Q => ∃ a dx fs b dy gs, x = .ref a ∧ y = .ref b ∧ H a = some (.ins C dx fs) ∧ H b = some (.ins C dy gs) ∧ sp [x, y] H (fun z H' => ∃ c, z = .bl c ∧ Q (.bl (!c)) H') E
theorem op_neOwn (hne : PySem.W.findIn X.K (.ref C) "__ne__" = some (some (.builtin "object.__ne__"))) (hso : PySem.W.subIn X.K (.ref C) (.type "object") = some true)
    (hs : PySem.W.findIn X.K (.ref C) "__eq__" = some (some (.ref g))) (hf : PySem.W.isFn X.K (.ref g) = true) (F : FnR X.prog X.w X.K X.mg X.base CX n g sp) (hr : Room (n + 1) X.A) (hx : Passes CX X E) :
    OpR X (compareOp .NotEq) (rNeOwn C sp E) := by
  intro pins s σ H x y v u Q I rx ry h
  obtain ⟨a, dx, fs, b, dy, gs, rfl, rfl, ha, hb, q⟩ := h
  cases (show v = Value.ref a from rx)
  cases (show u = Value.ref b from ry)
  obtain ⟨od, J⟩ := ins_inst I ha
  obtain ⟨od', J'⟩ := ins_inst I hb
  refine ne_K (by have := hr.un; omega) I.kIn J J' hne hso hs hf ?_
  refine wpAny_mono (wpAny_call (SlX.run_at (us := [.ref a, .ref b]) (ws := [.ref a, .ref b]) F hr.in1 I.env0.in1 hx I (.cons rfl (.cons rfl .nil)) q)) (fun w s' z => ?_) fun _ _ x => x
  obtain ⟨z', H', I', rz, c, rfl, qz⟩ := z
  cases (show w = Value.bool c from rz)
  exact ⟨c, rfl, .bl (!c), H', I', (show RelV (.bl (!c)) (Value.bool (!c)) from rfl), qz⟩
/-- len(x) -/
def rLenOwn (C : Addr) (sp : Sp) (E : XK) : List V → Hp → VK → Prop := fun xs H Q => ∃ a dx fs, xs = [.ref a] ∧ H a = some (.ins C dx fs) ∧ sp [.ref a] H (fun z H' => ∃ i, z = .int i ∧ 0 ≤ i ∧ i < 2 ^ 63 ∧ Q z H') E
theorem call_lenOwn (hs : PySem.W.findIn X.K (.ref C) "__len__" = some (some (.ref g))) (hf : PySem.W.isFn X.K (.ref g) = true) (F : FnR X.prog X.w X.K X.mg X.base CX n g sp) (hr : Room (n + 1) X.A) (hx : Passes CX X E) :
    CallR X (.builtin "len") (rLenOwn C sp E) := by
  intro pins s σ H xs us Q I r h
  obtain ⟨a, dx, fs, rfl, ha, q⟩ := h
  obtain ⟨u, rfl, ru⟩ := r.one
  cases (show u = Value.ref a from ru)
  obtain ⟨od, J⟩ := ins_inst I ha
  obtain ⟨m, hF⟩ := I.fr
  refine PySem.W.len_K hF I.ok.mod.kin J hs hf ?_
  refine wpAny_mono (wpAny_call (SlX.run_at (us := [.ref a]) (ws := [.ref a]) F hr.in1 I.env0.in1 hx I (.cons rfl .nil) q)) (fun w s' z => ?_) fun _ _ x => x
  obtain ⟨z', H', I', rz, i, rfl, h0, h1, qz⟩ := z
  obtain ⟨t, e⟩ := (show ∃ t, w = Value.int i t from rz)
  subst e
  exact ⟨⟨h0, h1⟩, .int i, H', I'.tok _, ⟨_, rfl⟩, qz⟩
/-- x[i] -/
def rItemOwn (C : Addr) (sp : Sp) (E : XK) : R2 := fun x y H Q => ∃ a dx fs, x = .ref a ∧ H a = some (.ins C dx fs) ∧ sp [x, y] H Q E
theorem pe_itemOwn {e b : Expr} {te tb : TE} {pos : Pos} (hs : PySem.W.findIn X.K (.ref C) "__getitem__" = some (some (.ref g))) (hf : PySem.W.isFn X.K (.ref g) = true) (hfn : PySem.W.fnIn X.K g = true) (F : FnR X.prog X.w X.K X.mg X.base CX n g sp) (hr : Room (n + 1) X.A) (hx : Passes CX X E)
    (ha : PE X e te) (hb : PE X b tb) (hsl : ∀ (o : Value) (i : Value), subscripted b true o i = runValue (.builtin "lifetime.subscript" ⟨[o, i], []⟩) := by intro o i; with_unfolding_all rfl) : PE X (.Subscript e b pos) (tOp (rItemOwn C sp E) te tb) := by
  refine ⟨fun pins s σ H Q I h => ?_⟩
  refine Subscript_ (binT ha hb I h fun v u s2 x y H2 I2 rx ry q => ?_)
  obtain ⟨a, dx, fs, rfl, ha, q⟩ := q
  cases (show v = Value.ref a from rx)
  obtain ⟨od, J⟩ := ins_inst I2 ha
  obtain ⟨m, hF⟩ := I2.fr
  refine PySem.W.sub_K hF I2.ok.mod.kin J hs hfn hf ?_ (hsl _ _)
  exact wpAny_call (SlX.run_at (us := [.ref a, u]) (ws := [.ref a, y]) F hr.in1 I2.env0.in1 hx I2 (.cons rfl (.cons ry .nil)) q)
/-- cls(..), cls a name whose value is the class -/
def tMakeV (i : Nat) (C : Addr) (sp : Sp) (E : XK) (t : TA) : TE := fun σ H Q => σ[i]? = some (some (.ref C)) ∧ tMakeR C sp E t σ H Q
theorem pe_makeV {k i : Nat} {f : Addr} {x : Str} {e : Expr} {es : List Expr} {t : TA} {p pos : Pos} (M : Mk X.K C f) (F : FnR X.prog X.w X.K X.mg X.base CX k f sp) (hr : Room (k + 1) X.A) (hx : Passes CX X E) (hN : X.N[i]? = some x) (hv : Vis X.env.scope x) (ha : PA X (e :: es) t)
    (hd : (x == ("__debug__" : Str)) = false := by decide) (hcd : (x == ("__classdict__" : Str)) = false := by decide)
    (he : starEach (e :: es) X.env = (false, eval e X.env) :: starEach es X.env := by rfl) (hpl : (backTo pos (starEach es X.env)).any (·.1) = false := by rfl) : PE X (.Call (.Name x p) (e :: es) [] pos) (tMakeV i C sp E t) := by
  refine ⟨fun pins s σ H Q I h => ?_⟩
  obtain ⟨hs, h⟩ := h
  refine wpAny_Call_Name_kw (thn ((pe_var (pos := p) (i := i) hN hv hd hcd).run pins s σ H (fun v H1 => v = .ref C ∧ H1 = H) I ⟨.ref C, hs, rfl, rfl⟩) fun u s1 ⟨v, H1, I1, r1, ev, eH⟩ => ?_)
  subst ev eH
  cases r1
  refine PySem.W.callWith_K (h₀ := X.base) I.ok.mod.kin M.kp (thn (ha.run pos pins s1 σ _ _ I1 h) fun us s2 ⟨vs, H2, I2, r, q⟩ => ⟨I2.kIn, ?_⟩) he hpl
  exact run_makeR M F hr hx I2 r q
end
/-- x(..), x a def of the module -/
def tCallR (sp : Sp) (E : XK) (t : TA) : TE := fun σ H Q => t σ H fun vs H1 => sp vs H1 Q E
theorem pe_callR {CX : CXT} {k : Nat} {f : Addr} {sp : Sp} {E : XK} {X : Cx} {x : Str} {e : Expr} {es : List Expr} {t : TA} {p pos : Pos} (F : FnR X.prog X.w X.K X.mg X.base CX k f sp) (hr : Room k X.A) (hk : PySem.W.keepIn X.K (.ref f) = true) (hm : X.mg x = some (.ref f)) (hx : Passes CX X E) (ha : PA X (e :: es) t)
    (hg : Gl X x := by rfl) (hd : (x == ("__debug__" : Str)) = false := by decide)
    (he : starEach (e :: es) X.env = (false, eval e X.env) :: starEach es X.env := by rfl) (hpl : (backTo pos (starEach es X.env)).any (·.1) = false := by rfl) :
    PE X (.Call (.Name x p) (e :: es) [] pos) (tCallR sp E t) := by
  refine ⟨fun pins s σ H Q I h => ?_⟩
  refine wpAny_Call_Name_kw (ld_glob I hg hm ?_ hd)
  refine PySem.W.callWith_K (h₀ := X.base) I.ok.mod.kin hk (thn (ha.run pos pins s σ H _ I h) fun us s1 ⟨vs, H1, I1, r, q⟩ => ⟨I1.kIn, ?_⟩) he hpl
  exact wpAny_call (run_fnR F hr hx I1 r q)
end K7

/-! The text by places; sequences of ints (lists or tuples), the heaps that keep what was there. -/
namespace K7
open PySem PySem.Spec PyProof.Rows L2 StX
def top (i : Nat) : Stmt := PySem.Challenge.pw_risingread_k07_whole_carries.main.body.getD i (.Pass ⟨0, 0, 0, 0⟩)
abbrev sIsWhole : Stmt := top 13
abbrev sIsBases : Stmt := top 14
abbrev sNeed : Stmt := top 15
abbrev sWeights : Stmt := top 16
abbrev sCount : Stmt := top 17
abbrev sSpread : Stmt := top 21
abbrev sGathered : Stmt := top 22
abbrev sFirstWrong : Stmt := top 23
abbrev sInit : Stmt := inClass (top 27) 2
abbrev sOf : Stmt := inClass (top 27) 4
abbrev sMade : Stmt := inClass (top 27) 6
abbrev sLike : Stmt := inClass (top 27) 7
abbrev sAmount : Stmt := inClass (top 27) 8
abbrev sChanged : Stmt := inClass (top 27) 9
abbrev sEq : Stmt := inClass (top 27) 11
abbrev sAdd : Stmt := inClass (top 27) 16
abbrev sLen : Stmt := inClass (top 27) 32
abbrev sItem : Stmt := inClass (top 27) 33
abbrev sCarry : Stmt := top 28
abbrev sFrom : Stmt := top 29
abbrev sPen : Stmt := top 31
abbrev sTake : Stmt := top 32
abbrev sPick : Stmt := top 33
abbrev sBases : Stmt := top 34
abbrev sLow : Stmt := top 35
abbrev sAtOnce : Stmt := top 36
abbrev sUnlike : Stmt := top 37
abbrev sBeyond : Stmt := top 38
abbrev sStep : Stmt := top 39
abbrev sRow : Stmt := top 40
abbrev sLaw : Stmt := top 41
/-! ### heaps -/
theorem same_new {H H1 : Hp} {p : Addr} {o : HO} (s : Same H H1) (h : H1 p = none) : Same H (upd H1 p o) := fun b u e => by
  rw [upd_ne (ne_of_none (s b u e) h)]
  exact s b u e
theorem same_put {H H1 : Hp} {p : Addr} {o : HO} (s : Same H H1) (h : H p = none) : Same H (upd H1 p o) := fun b u e => by
  rw [upd_ne (ne_of_none e h)]
  exact s b u e
theorem same_lay {H : Hp} {p : Addr} {o : HO} (h : H p = none) : Same H (upd H p o) := same_new (Same.refl H) h
theorem same_eq {H H1 : Hp} {a : Addr} {o : HO} (s : Same H H1) (h : H a = some o) : H1 a = H a := by rw [s a o h, h]
/-! ### a list or a tuple of ints -/
def Sq (H : Hp) (a : Addr) (ns : List Int) : Prop := H a = some (.lst (ns.map V.int)) ∨ H a = some (.tup (ns.map V.int))
theorem Sq.same {H H1 : Hp} {a : Addr} {ns : List Int} (h : Sq H a ns) (s : Same H H1) : Sq H1 a ns := h.elim (fun q => .inl (s _ _ q)) fun q => .inr (s _ _ q)
theorem Sq.eq {H H1 : Hp} {a : Addr} {ns : List Int} (h : Sq H a ns) (s : Same H H1) : H1 a = H a := h.elim (fun q => same_eq s q) fun q => same_eq s q
theorem Sq.lt {K : PySem.W.Frag} {H : Hp} {a : Addr} {ns : List Int} (h : Sq H a ns) : SqL K H a (ns.map V.int) ∨ SqT K H a (ns.map V.int) := h.elim (fun q => .inl (SqL.of q)) fun q => .inr (SqT.of q)
theorem seq_it {K : PySem.W.Frag} {H : Hp} {a : Addr} {ns : List Int} (h : Sq H a ns) : ∃ J, Walk J ns.length (fun H' => H' a = H a) (YAt (ns.map V.int)) ∧
    ∀ R : It → Hp → Prop, R J H → (((∃ xs, SqL K H a xs) ∧ R (Itl K a) H) ∨ ((∃ xs, SqT K H a xs) ∧ R (Itt K a) H)) := by
  rcases h with h | h
  · refine ⟨Itl K a, ?_, fun R r => .inl ⟨⟨_, SqL.of h⟩, r⟩⟩
    have w := (walk_list (K := K) (a := a) (xs := ns.map V.int)).mono (G' := fun H' => H' a = H a) (fun H' e => SqL.of (e.trans h)) fun i H1 x H2 _ _ y => y
    rw [List.length_map] at w
    exact w
  · refine ⟨Itt K a, ?_, fun R r => .inr ⟨⟨_, SqT.of h⟩, r⟩⟩
    have w := (walk_tup (K := K) (a := a) (xs := ns.map V.int)).mono (G' := fun H' => H' a = H a) (fun H' e => SqT.of (e.trans h)) fun i H1 x H2 _ _ y => y
    rw [List.length_map] at w
    exact w
theorem enum_itA {K : PySem.W.Frag} {H : Hp} {a : Addr} {ns : List Int} (h : Sq H a ns) : ∃ J, Walk J ns.length (fun H' => H' a = H a) (YPair (fun i => some (.int (i : Nat))) (fun i => (ns.map V.int)[i]?)) ∧
    ∀ R : It → Hp → Prop, R J H → ((SqL K H a (ns.map V.int) ∧ R (Ite K a) H) ∨ (SqT K H a (ns.map V.int) ∧ R (IteT K a) H)) := by
  rcases h with h | h
  · refine ⟨Ite K a, ?_, fun R r => .inl ⟨SqL.of h, r⟩⟩
    have w := (walk_enum (K := K) (a := a) (xs := ns.map V.int)).mono (G' := fun H' => H' a = H a) (fun H' e => SqL.of (e.trans h)) fun i H1 x H2 _ _ y => y
    rw [List.length_map] at w
    exact w
  · refine ⟨IteT K a, ?_, fun R r => .inr ⟨SqT.of h, r⟩⟩
    have w := (walk_enumT (K := K) (a := a) (xs := ns.map V.int)).mono (G' := fun H' => H' a = H a) (fun H' e => SqT.of (e.trans h)) fun i H1 x H2 _ _ y => y
    rw [List.length_map] at w
    exact w
theorem zip_itA {K : PySem.W.Frag} {H : Hp} {a b : Addr} {ms ns : List Int} (ha : H a = some (.lst (ms.map V.int))) (hb : Sq H b ns) (hl : ms.length = ns.length) :
    ∃ J, Walk J ns.length (fun H' => H' a = H a ∧ H' b = H b) (YPair (fun i => (ms.map V.int)[i]?) (fun i => (ns.map V.int)[i]?)) ∧
    ∀ R : It → Hp → Prop, R J H → ((SqL K H b (ns.map V.int) ∧ R (Itz K a b) H) ∨ (SqT K H b (ns.map V.int) ∧ R (ItzM K a b) H)) := by
  rcases hb with h | h
  · refine ⟨Itz K a b, ?_, fun R r => .inl ⟨SqL.of h, r⟩⟩
    exact (walk_zip (K := K) (a := a) (b := b) (xs := ms.map V.int) (ys := ns.map V.int) (n := ns.length) (by rw [List.length_map, List.length_map, hl, Nat.min_self])).mono (G' := fun H' => H' a = H a ∧ H' b = H b)
      (fun H' e => ⟨SqL.of (e.1.trans ha), SqL.of (e.2.trans h)⟩) fun i H1 x H2 _ _ y => y
  · refine ⟨ItzM K a b, ?_, fun R r => .inr ⟨SqT.of h, r⟩⟩
    exact (walk_zipM (K := K) (a := a) (b := b) (xs := ms.map V.int) (ys := ns.map V.int) (n := ns.length) (by rw [List.length_map, hl]) (by rw [List.length_map, List.length_map, hl])).mono (G' := fun H' => H' a = H a ∧ H' b = H b)
      (fun H' e => ⟨SqL.of (e.1.trans ha), SqT.of (e.2.trans h)⟩) fun i H1 x H2 _ _ y => y
/-! ### the walks as readings: whatever the thing is -/
def upE (t : TE) : TE := fun σ H Q => ∃ Q0 : VK, t σ H Q0 ∧ ∀ v H1, Q0 v H1 → Q v H1
def upA (t : TA) : TA := fun σ H Q => ∃ Q0 : List V → Hp → Prop, t σ H Q0 ∧ ∀ v H1, Q0 v H1 → Q v H1
section
variable {X : Cx} {e e2 l tg : Expr} {te : TE} {ta : TA} {es : List Expr}
theorem PEup (h : PE X e te) : PE X e (upE te) := by
  refine ⟨fun pins s σ H Q I hh => ?_⟩
  obtain ⟨Q0, q, imp⟩ := hh
  exact thn (h.run pins s σ H Q0 I q) fun v s1 ⟨x, H1, I1, r, z⟩ => ⟨x, H1, I1, r, imp _ _ z⟩
theorem PAup (h : PA X es ta) : PA X es (upA ta) := by
  refine ⟨fun pos pins s σ H Q I hh => ?_⟩
  obtain ⟨Q0, q, imp⟩ := hh
  exact thn (h.run pos pins s σ H Q0 I q) fun v s1 ⟨x, H1, I1, r, z⟩ => ⟨x, H1, I1, r, imp _ _ z⟩
theorem PIimp {wi wi' : TI} (h : PI X tg l wi) (imp : ∀ σ H R, wi' σ H R → wi σ H R) : PI X tg l wi' := ⟨fun pins s σ H R I q => h.run pins s σ H R I (imp σ H R q)⟩
/-- for x in a list or a tuple of ints -/
def iSeqI (tl : TE) : TI := fun σ H R => tl σ H fun x H1 => ∃ (a : Addr) (ns : List Int), x = .ref a ∧ Sq H1 a ns ∧ ∀ J, Walk J ns.length (fun H' => H' a = H1 a) (YAt (ns.map V.int)) → R J H1
theorem pi_seqI (hl : PE X l te) : PI X tg l (iSeqI te) := PIimp (pi_seqA (PEup hl)) fun σ H R q => ⟨_, q, fun x H1 ⟨a, ns, ex, hS, k⟩ => by
  obtain ⟨J, wk, go⟩ := seq_it (K := X.K) hS
  exact ⟨a, ex, go _ (k J wk)⟩⟩
/-- for i, x in enumerate(..) -/
def iEnumI (ta : TA) : TI := fun σ H R => ta σ H fun vs H1 => ∃ (a : Addr) (ns : List Int), vs = [.ref a] ∧ Sq H1 a ns ∧ ∀ J, Walk J ns.length (fun H' => H' a = H1 a) (YPair (fun i => some (.int (i : Nat))) (fun i => (ns.map V.int)[i]?)) → R J H1
theorem pi_enumI {p pos tpos : Pos} {elts : List Expr} {kk : Nat} (hm : X.mg "enumerate" = none) (ha : PA X [e] ta) (hg : Gl X "enumerate" := by rfl) (hs : starEach [e] X.env = [(false, eval e X.env)] := by rfl) :
    PI X (.Tuple elts kk tpos) (.Call (.Name "enumerate" p) [e] [] pos) (iEnumI ta) := PIimp (pi_enumA hg hm (PAup ha) hs) fun σ H R q => ⟨_, q, fun vs H1 ⟨a, ns, ex, hS, k⟩ => by
  obtain ⟨J, wk, go⟩ := enum_itA (K := X.K) hS
  exact ⟨a, _, ex, go _ (k J wk)⟩⟩
/-- for x, y in zip(..), a list, and a list or a tuple as long -/
def iZipI (ta : TA) : TI := fun σ H R => ta σ H fun vs H1 => ∃ (a b : Addr) (ms ns : List Int), vs = [.ref a, .ref b] ∧ H1 a = some (.lst (ms.map V.int)) ∧ Sq H1 b ns ∧ ms.length = ns.length ∧
  ∀ J, Walk J ns.length (fun H' => H' a = H1 a ∧ H' b = H1 b) (YPair (fun i => (ms.map V.int)[i]?) (fun i => (ns.map V.int)[i]?)) → R J H1
theorem pi_zipI {p pos tpos : Pos} {elts : List Expr} {kk : Nat} (hm : X.mg "zip" = none) (ha : PA X [e, e2] ta) (hg : Gl X "zip" := by rfl)
    (hs : starEach [e, e2] X.env = (false, eval e X.env) :: starEach [e2] X.env := by rfl) (hpl : (backTo pos (starEach [e2] X.env)).any (·.1) = false := by rfl) :
    PI X (.Tuple elts kk tpos) (.Call (.Name "zip" p) [e, e2] [] pos) (iZipI ta) := PIimp (pi_zipM hg hm (PAup ha) hs hpl) fun σ H R q => ⟨_, q, fun vs H1 ⟨a, b, ms, ns, ex, hA, hS, hl, k⟩ => by
  obtain ⟨J, wk, go⟩ := zip_itA (K := X.K) hA hS hl
  exact ⟨a, b, _, _, ex, SqL.of hA, go _ (k J wk)⟩⟩
end
theorem map_get {ns : List Int} {i : Nat} {x : V} (h : (ns.map V.int)[i]? = some x) : ∃ n, x = .int n ∧ ns[i]? = some n := by
  rw [List.getElem?_map] at h
  cases e : ns[i]? with
  | none =>
    rw [e] at h
    cases h
  | some n =>
    rw [e] at h
    exact ⟨n, (Option.some.inj h).symm, rfl⟩
theorem get_map {ns : List Int} {i : Nat} {n : Int} (h : ns[i]? = some n) : (ns.map V.int)[i]? = some (.int n) := by rw [List.getElem?_map, h]; rfl
theorem len_of_get {α : Type} {ns : List α} {i : Nat} {n : α} (h : ns[i]? = some n) : i < ns.length := (List.getElem?_eq_some_iff.mp h).1
theorem small (n : Nat) (h : n ≤ 1000) : n ≤ sizeLine := Nat.le_trans h (by decide)
end K7

/-! is_whole, is_bases, need_bases, weights, count_of. -/
namespace K7
open PySem PySem.Spec PyProof.Rows L2 StX
/-- a def of the module, with its promise -/
abbrev CallF (P : Program) (w : World) (K : PySem.W.Frag) (mg : Str → Option Value) (base : Heap) (CX : CXT) (k : Nat) (x : Str) (sp : Sp) : Prop := ∃ f, FnR P w K mg base CX k f sp ∧ PySem.W.keepIn K (.ref f) = true ∧ mg x = some (.ref f)
section
variable {X : Cx} {CX : CXT} {k : Nat} {sp : Sp} {E : XK} {x : Str} {e : Expr} {es : List Expr} {t : TA} {p pos : Pos}
theorem pe_cf (c : CallF X.prog X.w X.K X.mg X.base CX k x sp) (hr : Room k X.A) (hx : Passes CX X E) (ha : PA X (e :: es) t)
    (hg : Gl X x := by rfl) (hd : (x == ("__debug__" : Str)) = false := by decide)
    (he : starEach (e :: es) X.env = (false, eval e X.env) :: starEach es X.env := by rfl) (hpl : (backTo pos (starEach es X.env)).any (·.1) = false := by rfl) :
    PE X (.Call (.Name x p) (e :: es) [] pos) (tCallR sp E t) :=
  let ⟨_, F, hk, hm⟩ := c
  pe_callR F hr hk hm hx ha hg hd he hpl
end
/-- the builtins that the module has not bound -/
structure Bi (mg : Str → Option Value) : Prop where
  isinstance : mg "isinstance" = none
  len : mg "len" = none
  all : mg "all" = none
  int : mg "int" = none
  bool : mg "bool" = none
  tuple : mg "tuple" = none
  list : mg "list" = none
  zip : mg "zip" = none
  enumerate : mg "enumerate" = none
  range : mg "range" = none
  min : mg "min" = none
  max : mg "max" = none
  abs : mg "abs" = none
  repr : mg "repr" = none
  low : ∃ t, mg "LEAST_BASE" = some (.int 2 t)
  high : ∃ t, mg "GREATEST_BASE" = some (.int 100 t)
  most : ∃ t, mg "MOST_BASES" = some (.int 4 t)
section
variable {X : Cx} {pos : Pos}
theorem pe_ty {x : Str} {n : String} (hm : X.mg x = none) (hv : bootBuiltins x = some (.type n)) (hg : Gl X x := by rfl) (hn : x ≠ "__name__" := by decide) (hd : (x == ("__debug__" : Str)) = false := by decide) : PE X (.Name x pos) (tC (.ty n)) := pe_bltn hg hm hv rfl hn hd
end
theorem bt_int : bootBuiltins "int" = some (.type "int") := by decide +kernel
theorem bt_bool : bootBuiltins "bool" = some (.type "bool") := by decide +kernel
theorem bt_tuple : bootBuiltins "tuple" = some (.type "tuple") := by decide +kernel
theorem bt_list : bootBuiltins "list" = some (.type "list") := by decide +kernel
theorem bt_isinstance : bootBuiltins "isinstance" = some (.builtin "isinstance") := by decide +kernel
theorem bt_len : bootBuiltins "len" = some (.builtin "len") := by decide +kernel
theorem bt_all : bootBuiltins "all" = some (.builtin "all") := by decide +kernel
theorem bt_min : bootBuiltins "min" = some (.builtin "min") := by decide +kernel
theorem bt_max : bootBuiltins "max" = some (.builtin "max") := by decide +kernel
theorem bt_abs : bootBuiltins "abs" = some (.builtin "abs") := by decide +kernel
theorem bt_repr : bootBuiltins "repr" = some (.builtin "repr") := by decide +kernel

/-! ### promises -/
def spIsWhole : Sp := fun vs H Q _ => ∃ i : Int, vs = [.int i] ∧ Q (.bl true) H
def spIsBases : Sp := fun vs H Q _ => ∃ a bs, vs = [.ref a] ∧ Sq H a bs ∧ OkB bs ∧ ∀ H', Same H H' → Q (.bl true) H'
def spNeed : Sp := fun vs H Q _ => ∃ a bs, vs = [.ref a] ∧ Sq H a bs ∧ OkB bs ∧ ∀ H', Same H H' → Q .non H'
def spWeights : Sp := fun vs H Q _ => ∃ a bs, vs = [.ref a] ∧ Sq H a bs ∧ OkB bs ∧ ∀ H' q, Same H H' → H q = none → H' q = some (.tup ((wts bs).map V.int)) → Q (.ref q) H'
def spCount : Sp := fun vs H Q _ => ∃ a bs, vs = [.ref a] ∧ Sq H a bs ∧ OkB bs ∧ ∀ H', Same H H' → Q (.int (prd bs)) H'
section
variable {P : Program} {w : World} {K : PySem.W.Frag} {mg : Str → Option Value} {base : Heap}
theorem scW : FnScope ["thing"] ["thing"] (defScope sIsWhole) := ⟨rfl, rfl, rfl, by decide +kernel, rfl, by decide +kernel, by decide +kernel⟩
theorem ok_isWhole {f : Addr} {fd : FuncData} (F : Fun K "is_whole" "is_whole" sIsWhole f fd) (B : Bi mg) : FnOk P w K mg base CX0 1 f fd ["thing"] spIsWhole := by
  refine F.ok scW (fun vs H Q E h => ?_) (fun cdv A outer s H vs Q E hr h => ?_)
  · obtain ⟨i, rfl, _⟩ := h
    rfl
  · obtain ⟨i, rfl, k⟩ := h
    refine ⟨_, pss_one (ps_ret (pe_and (pe_callB call_isi (by rfl) B.isinstance bt_isinstance (pa_cons (pv 0) (pa_cons (pe_ty B.int bt_int) pa_nil)))
      (pe_one (pe_not (pe_callB call_isi (by rfl) B.isinstance bt_isinstance (pa_cons (pv 0) (pa_cons (pe_ty B.bool bt_bool) pa_nil))))))), ?_⟩
    refine ⟨_, rfl, .int i, .ty "int", .type "int", .type "int", true, rfl, .ty _, .base (.int i), kit_ty (by decide +kernel), true, rfl, ?_⟩
    refine iteT ⟨_, rfl, .int i, .ty "bool", .type "int", .type "bool", false, rfl, .ty _, .base (.int i), kit_ty (by decide +kernel), false, rfl, k⟩
theorem scB : FnScope ["thing", "base"] ["thing"] (defScope sIsBases) := ⟨rfl, rfl, rfl, by decide +kernel, rfl, by decide +kernel, by decide +kernel⟩
theorem ok_isBases {f : Addr} {fd : FuncData} (F : Fun K "is_bases" "is_bases" sIsBases f fd) (B : Bi mg) (cW : CallF P w K mg base CX0 1 "is_whole" spIsWhole) : FnOk P w K mg base CX0 2 f fd ["thing"] spIsBases := by
  refine F.ok scB (fun vs H Q E h => ?_) (fun cdv A outer s H vs Q E hr h => ?_)
  · obtain ⟨a, bs, rfl, _⟩ := h
    rfl
  · obtain ⟨a, bs, rfl, hS, ok, k⟩ := h
    obtain ⟨t2, hlow⟩ := B.low
    obtain ⟨t100, hhigh⟩ := B.high
    obtain ⟨t4, hmost⟩ := B.most
    refine ⟨_, pss_cons (ps_if (PW.pt (pw_or (pt_not (pt_val (pe_callB call_isiT (by rfl) B.isinstance bt_isinstance (pa_cons (pv 0) (pa_cons (pe_tup (pa_cons (pe_ty B.tuple bt_tuple) (pa_cons (pe_ty B.list bt_list) pa_nil))) pa_nil)))))
        (pw_or1 (pt_not (pt_chain op_le op_le pe_int (pe_callB call_len_seq (by rfl) B.len bt_len (pa_cons (pv 0) pa_nil)) (pe_glob (v := .int 4) rfl hmost ⟨_, rfl⟩))))))
        (pss_one (ps_ret pe_bl)) pss_nil)
      (pss_one (ps_ret (pe_callB (cr_all rfl) (by rfl) B.all bt_all (pa_cons (pe_lc (own := [("base", 1)]) (g := gName 1) (tt := tYes) rfl scB.nd (pi_seqI (pv 0))
        (blkOk_by (N := ["thing", "base"]) (sc := defScope sIsBases) (by decide +kernel)) (fun _ _ _ _ _ => pg_name (i := 1) scB.nd rfl (Or.inl rfl)) (fun _ _ _ _ _ => pts_nil)
        (fun _ _ _ _ _ => pe_and (pe_cf cW hr L2.pass0 (pa_cons (pv 1) pa_nil)) (pe_one (pe_chain op_le op_le (pe_glob (v := .int 2) rfl hlow ⟨_, rfl⟩) (pv 1) (pe_glob (v := .int 100) rfl hhigh ⟨_, rfl⟩))))) pa_nil)))), ?_⟩
    refine ⟨_, rfl, (by show 2 ≤ sizeLine; decide), fun T hT => ?_⟩
    have sT : Same H (upd H T (.tup [.ty "tuple", .ty "list"])) := same_lay hT
    have hST := hS.same sT
    have hk : ∃ tt, TyX K (upd H T (.tup [.ty "tuple", .ty "list"])) (.ref a) tt ∧ PySem.W.kitAny K tt [.type "tuple", .type "list"] = some true := by
      rcases hST with q | q
      · exact ⟨_, .base (.lst q), kitAny_cons (b := false) (kit_ty (by decide +kernel)) (fun _ => kitAny_cons (b := true) (kit_ty (by decide +kernel)) (fun z => nomatch z) fun _ => rfl) fun z => nomatch z⟩
      · exact ⟨_, .base (.tup q), kitAny_cons (b := true) (kit_ty (by decide +kernel)) (fun z => nomatch z) fun _ => rfl⟩
    obtain ⟨tt, ty, kk⟩ := hk
    refine ⟨.ref a, T, _, tt, _, true, rfl, upd_same, .cons (.ty _) (.cons (.ty _) .nil), ty, kk, true, rfl, ?_⟩
    refine iteF ?_
    refine ⟨_, rfl, a, _, rfl, hST.lt, _, _, rfl, rfl, _, rfl, ?_⟩
    have hp := ok.pos
    have hf := ok.few
    have e1 : decide ((1 : Int) ≤ ((bs.map V.int).length : Nat)) = true := decide_eq_true (by rw [List.length_map]; omega)
    have e2 : decide ((((bs.map V.int).length : Nat) : Int) ≤ 4) = true := decide_eq_true (by rw [List.length_map]; omega)
    rw [e1]
    refine iteT ⟨_, _, rfl, rfl, true, ?_, ?_⟩
    · exact congrArg V.bl e2
    refine iteF ?_
    refine ⟨_, rfl, a, bs, rfl, hST, fun J wk D hD => ?_⟩
    refine lc_it wk (fun i H1 => Same H H1 ∧ H1 D = some (.lst ((List.replicate i true).map V.bl))) ⟨same_new sT hD, upd_same⟩ (fun i H1 _ R => by rw [hS.eq R.1, hS.eq sT]) ?_ ?_
    · rintro i x H1 _ hi ⟨R, hDl⟩ ⟨rfl, hx⟩
      obtain ⟨b, rfl, hb⟩ := map_get hx
      have hb2 := ok.two b (List.mem_of_getElem? hb)
      refine ⟨rfl, ?_⟩
      refine ⟨_, rfl, b, rfl, true, rfl, ?_⟩
      refine iteT ?_
      refine ⟨_, rfl, _, _, rfl, rfl, _, rfl, ?_⟩
      rw [decide_eq_true hb2.1]
      refine iteT ?_
      refine ⟨_, _, rfl, rfl, ?_⟩
      simp only [decide_eq_true hb2.2]
      refine ⟨_, hDl, by rw [List.length_map, List.length_replicate]; exact small1000 (by omega), ?_⟩
      refine ⟨same_put R (sT.free hD), ?_⟩
      rw [upd_same, List.replicate_succ', List.map_append]
      rfl
    · rintro H1 ⟨R, hDl⟩
      refine ⟨D, List.replicate bs.length true, rfl, SqL.of hDl, ?_⟩
      have e3 : (List.replicate bs.length true).all id = true := by simp
      rw [e3]
      exact k _ R
theorem scN : FnScope ["thing"] ["thing"] (defScope sNeed) := ⟨rfl, rfl, rfl, by decide +kernel, rfl, by decide +kernel, by decide +kernel⟩
theorem ok_need {f : Addr} {fd : FuncData} (F : Fun K "need_bases" "need_bases" sNeed f fd) (cB : CallF P w K mg base CX0 2 "is_bases" spIsBases) : FnOk P w K mg base CX0 3 f fd ["thing"] spNeed := by
  refine F.ok scN (fun vs H Q E h => ?_) (fun cdv A outer s H vs Q E hr h => ?_)
  · obtain ⟨a, bs, rfl, _⟩ := h
    rfl
  · obtain ⟨a, bs, rfl, hS, ok, k⟩ := h
    refine ⟨_, pss_one (ps_if (pt_not (pt_val (pe_cf cB hr L2.pass0 (pa_cons (pv 0) pa_nil)))) (pss_one ps_never) pss_nil), ?_⟩
    exact ⟨_, rfl, a, bs, rfl, hS, ok, fun H' S => ⟨true, rfl, iteF (k H' S)⟩⟩
end
end K7

/-! Rules in the words of this program's data. -/
namespace K7
open PySem PySem.Spec PyProof.Rows L2 StX
section
variable {X : Cx} {e b : Expr} {te tb : TE} {ta : TA} {pos : Pos}
theorem PEimp {t t' : TE} (h : PE X e t) (imp : ∀ σ H Q, t' σ H Q → t σ H Q) : PE X e t' := ⟨fun pins s σ H Q I q => h.run pins s σ H Q I (imp σ H Q q)⟩
theorem OpRimp {f : Value → Value → Sem Value} {r r' : R2} (h : OpR X f r) (imp : ∀ x y H Q, r' x y H Q → r x y H Q) : OpR X f r' := fun pins s σ H x y v u Q I rx ry q => h pins s σ H x y v u Q I rx ry (imp x y H Q q)
theorem IxRimp {r r' : R2} (h : IxR X r) (imp : ∀ x y H Q, r' x y H Q → r x y H Q) : IxR X r' := fun value slice pins s σ H x y v u Q I rx ry q hs => h value slice pins s σ H x y v u Q I rx ry (imp x y H Q q) hs
theorem CallRimp {f : Value} {r r' : List V → Hp → VK → Prop} (h : CallR X f r) (imp : ∀ xs H Q, r' xs H Q → r xs H Q) : CallR X f r' := fun pins s σ H xs us Q I rx q => h pins s σ H xs us Q I rx (imp xs H Q q)
/-- xs[::-1] of ints -/
def tRevI (te : TE) : TE := fun σ H Q => te σ H fun x H1 => ∃ (a : Addr) (ns : List Int), x = .ref a ∧ Sq H1 a ns ∧ ∀ p H2, H1 p = none → Same H1 H2 → Sq H2 p ns.reverse → Q (.ref p) H2
theorem pe_revI {k : Nat} {p1 p2 p3 : Pos} (he : PE X e te) : PE X (.Subscript e (.Slice none none (some (.UnaryOp .USub (.Constant (.int 1) k p1) p2)) p3) pos) (tRevI te) :=
  PEimp (pe_revA (PEup he)) fun σ H Q q => ⟨_, q, fun x H1 ⟨a, ns, ex, hS, kk⟩ => by
    rcases hS with h | h
    · exact ⟨a, _, ex, .inl ⟨SqL.of h, fun p hp => kk p _ hp (same_lay hp) (.inl (by rw [upd_same, List.map_reverse]))⟩⟩
    · exact ⟨a, _, ex, .inr ⟨SqT.of h, fun p hp => kk p _ hp (same_lay hp) (.inr (by rw [upd_same, List.map_reverse]))⟩⟩⟩
/-- xs[j] of ints -/
def rIxI : R2 := fun x y H Q => ∃ (a : Addr) (ns : List Int) (j : Nat) (n : Int), x = .ref a ∧ y = .int (j : Int) ∧ Sq H a ns ∧ ns[j]? = some n ∧ Q (.int n) H
theorem ix_I : IxR X rIxI := IxRimp ix_seq fun x y H Q ⟨a, ns, j, n, ex, ey, hS, hn, q⟩ => by
  rcases hS with h | h
  · exact .inl ⟨a, _, _, _, ex, ey, SqL.of h, atI_nat (get_map hn), q⟩
  · exact .inr (.inl ⟨a, _, _, _, ex, ey, SqT.of h, atI_nat (get_map hn), q⟩)
/-- xs[j] of any list -/
def rIxV : R2 := fun x y H Q => ∃ (a : Addr) (xs : List V) (j : Nat) (v : V), x = .ref a ∧ y = .int (j : Int) ∧ H a = some (.lst xs) ∧ xs[j]? = some v ∧ Q v H
theorem ix_V : IxR X rIxV := IxRimp ix_list fun x y H Q ⟨a, xs, j, v, ex, ey, h, hn, q⟩ => ⟨a, _, _, _, ex, ey, SqL.of h, atI_nat hn, q⟩
/-- len of ints -/
theorem call_lenI : CallR X (.builtin "len") (fun xs H Q => ∃ (a : Addr) (ns : List Int), xs = [.ref a] ∧ Sq H a ns ∧ Q (.int (ns.length : Nat)) H) := CallRimp call_len_seq fun xs H Q ⟨a, ns, ex, hS, q⟩ =>
  ⟨a, _, ex, hS.lt, by rw [List.length_map]; exact q⟩
theorem op_modP : OpR X (binaryOp .Mod) (fun x y H Q => ∃ i j, x = .int i ∧ y = .int j ∧ 0 < j ∧ Q (.int (i % j)) H) := op_mod
theorem op_divP : OpR X (binaryOp .FloorDiv) (fun x y H Q => ∃ i j, x = .int i ∧ y = .int j ∧ 0 < j ∧ j < 1073741824 ∧ Q (.int (i / j)) H) := OpRimp op_fdivN fun x y H Q ⟨i, j, ex, ey, h1, h2, q⟩ =>
  ⟨i, j, ex, ey, ⟨by omega, by omega⟩, by show Q (V.int (i.fdiv j)) H; rw [Int.fdiv_eq_ediv_of_nonneg _ (by omega)]; exact q⟩
theorem op_mulS : OpR X (binaryOp .Mult) (fun x y H Q => ∃ i j, x = .int i ∧ y = .int j ∧ 0 ≤ j ∧ j ≤ 1000000000 ∧ Q (.int (i * j)) H) := OpRimp op_mul fun x y H Q ⟨i, j, ex, ey, h1, h2, q⟩ => ⟨i, j, ex, ey, .inr ⟨by omega, by omega⟩, q⟩
theorem op_leY : OpR X (compareOp .LtE) (fun x y H Q => ∃ i j, x = .int i ∧ y = .int j ∧ i ≤ j ∧ Q (.bl true) H) := OpRimp op_le fun x y H Q ⟨i, j, ex, ey, h, q⟩ => ⟨i, j, ex, ey, by show Q (V.bl (decide (i ≤ j))) H; rw [decide_eq_true h]; exact q⟩
theorem op_ltY : OpR X (compareOp .Lt) (fun x y H Q => ∃ i j, x = .int i ∧ y = .int j ∧ i < j ∧ Q (.bl true) H) := OpRimp op_lt fun x y H Q ⟨i, j, ex, ey, h, q⟩ => ⟨i, j, ex, ey, by show Q (V.bl (decide (i < j))) H; rw [decide_eq_true h]; exact q⟩
end
end K7

/-! weights, count_of, spread, gathered, first_wrong. -/
namespace K7
open PySem PySem.Spec PyProof.Rows L2 StX
def spSpread : Sp := fun vs H Q _ => ∃ v a bs, vs = [.int v, .ref a] ∧ Sq H a bs ∧ OkB bs ∧ ∀ H' q, Same H H' → H q = none → H' q = some (.lst ((digs v bs).map V.int)) → Q (.ref q) H'
def spGathered : Sp := fun vs H Q _ => ∃ d a v bs, vs = [.ref d, .ref a] ∧ H d = some (.lst ((digs v bs).map V.int)) ∧ Sq H a bs ∧ OkB bs ∧ 0 ≤ v ∧ v < prd bs ∧ ∀ H', Same H H' → Q (.int v) H'
def spFirstWrong : Sp := fun vs H Q _ => ∃ d a v bs, vs = [.ref d, .ref a] ∧ H d = some (.lst ((digs v bs).map V.int)) ∧ Sq H a bs ∧ OkB bs ∧ ∀ H', Same H H' → Q .non H'
section
variable {P : Program} {w : World} {K : PySem.W.Frag} {mg : Str → Option Value} {base : Heap}
theorem scWt : FnScope ["bases", "found", "weight", "base"] ["bases"] (defScope sWeights) := ⟨rfl, rfl, rfl, by decide +kernel, rfl, by decide +kernel, by decide +kernel⟩
theorem ok_weights {f : Addr} {fd : FuncData} (F : Fun K "weights" "weights" sWeights f fd) (B : Bi mg) (cN : CallF P w K mg base CX0 3 "need_bases" spNeed) : FnOk P w K mg base CX0 4 f fd ["bases"] spWeights := by
  refine F.ok scWt (fun vs H Q E h => ?_) (fun cdv A outer s H vs Q E hr h => ?_)
  · obtain ⟨a, bs, rfl, _⟩ := h
    rfl
  · obtain ⟨a, bs, rfl, hS, ok, k⟩ := h
    refine ⟨_, pss_cons (ps_expr (pe_cf cN hr L2.pass0 (pa_cons (pv 0) pa_nil))) (pss_cons (ps_set (i := 1) scWt.nd rfl (Or.inl rfl) (pe_lst pa_nil)) (pss_cons (ps_set (i := 2) scWt.nd rfl (Or.inl rfl) pe_int)
      (pss_cons (ps_for PassesOwn.never rfl (pi_seqI (pe_revI (pv 0))) (pg_name (i := 3) scWt.nd rfl (Or.inl rfl))
        (pss_cons (ps_expr (pe_bm PySem.F.plainAttrs_list PySem.F.slot_list_append PySem.F.type_list_append mt_append (pv 1) (pa_cons (pv 2) pa_nil)))
          (pss_one (ps_set (i := 2) scWt.nd rfl (Or.inl rfl) (pe_op op_mulS (pv 2) (pv 3))))))
      (pss_one (ps_ret (pe_callTy call_tuple_of (by rfl) B.tuple bt_tuple (pa_cons (pe_revI (pv 1)) pa_nil))))))), ?_⟩
    refine ⟨_, rfl, a, bs, rfl, hS, ok, fun H1 S1 => ?_⟩
    refine ⟨Nat.zero_le _, fun l hl => ?_⟩
    have hl0 : H l = none := S1.free hl
    refine ⟨_, rfl, a, bs, rfl, (hS.same S1).same (same_lay hl), fun p H2 hp S2 hR => ⟨p, bs.reverse, rfl, hR, fun J wk => ?_⟩⟩
    rw [List.length_reverse] at wk
    have nlp : l ≠ p := fun e => by rw [← e, upd_same] at hp; cases hp
    have hll : H2 l = some (.lst []) := S2 _ _ upd_same
    have S02 : Same H H2 := (S1.trans (same_lay hl)).trans S2
    refine for_it wk (fun i σ H' => ∃ v, σ = [some (.ref a), some (.ref l), some (.int (prd (bs.drop (bs.length - i)))), v] ∧ Same H H' ∧ H' l = some (.lst ((wts (bs.drop (bs.length - i))).reverse.map V.int)) ∧ H' p = H2 p) ?_ ?_ ?_ ?_
    · refine ⟨none, ?_, S02, ?_, rfl⟩
      · rw [suf_zero]
        rfl
      · rw [suf_zero]
        exact hll
    · rintro i σ H' _ ⟨v, _, _, _, e⟩
      exact e
    · rintro i x σ H' _ hi ⟨v, rfl, S', hL, hP⟩ ⟨rfl, hx⟩
      obtain ⟨b, rfl, hb⟩ := map_get hx
      have hb2 := ok.two b (rev_mem hb)
      have es := suf_succ hb
      have hlen : (wts (bs.drop (bs.length - i))).length ≤ 4 := by rw [wts_len, List.length_drop]; have := ok.few; omega
      refine ⟨_, rfl, .inl ⟨rfl, _, SqL.of hL⟩, _, rfl, l, _, _, rfl, rfl, hL, by rw [List.length_map, List.length_reverse]; exact small1000 (by omega), ?_⟩
      refine ⟨_, rfl, _, rfl, _, _, rfl, rfl, by omega, by omega, ?_⟩
      refine ⟨some (.int b), ?_, same_put S' hl0, ?_, by rw [upd_ne nlp.symm]; exact hP⟩
      · rw [es]
        show _ = [_, _, some (V.int (b * prd (bs.drop (bs.length - i)))), _]
        rw [Int.mul_comm b]
        rfl
      · rw [es, upd_same]
        show _ = some (HO.lst ((prd (bs.drop (bs.length - i)) :: wts (bs.drop (bs.length - i))).reverse.map V.int))
        rw [List.reverse_cons, List.map_append]
        rfl
    · rintro σ H' ⟨v, rfl, S', hL, hP⟩
      rw [suf_all] at hL
      refine ⟨_, rfl, l, _, rfl, .inl hL, fun q H3 hq S3 hR3 => ?_⟩
      rw [List.reverse_reverse] at hR3
      rcases hR3 with h3 | h3
      · refine ⟨q, _, rfl, .inl ⟨SqL.of h3, fun r hr3 => ?_⟩⟩
        exact k _ r ((S'.trans S3).trans (same_lay hr3)) (S'.free (S3.free hr3)) upd_same
      · refine ⟨q, _, rfl, .inr ⟨SqT.of h3, ?_⟩⟩
        exact k _ q (S'.trans S3) (S'.free hq) h3
theorem scCt : FnScope ["bases"] ["bases"] (defScope sCount) := ⟨rfl, rfl, rfl, by decide +kernel, rfl, by decide +kernel, by decide +kernel⟩
theorem ok_count {f : Addr} {fd : FuncData} (F : Fun K "count_of" "count_of" sCount f fd) (cW : CallF P w K mg base CX0 4 "weights" spWeights) : FnOk P w K mg base CX0 5 f fd ["bases"] spCount := by
  refine F.ok scCt (fun vs H Q E h => ?_) (fun cdv A outer s H vs Q E hr h => ?_)
  · obtain ⟨a, bs, rfl, _⟩ := h
    rfl
  · obtain ⟨a, bs, rfl, hS, ok, k⟩ := h
    refine ⟨_, pss_one (ps_ret (pe_op op_mulS (pe_ix ix_I (pe_cf cW hr L2.pass0 (pa_cons (pv 0) pa_nil)) pe_int (fun _ _ => rfl)) (pe_ix ix_I (pv 0) pe_int (fun _ _ => rfl)))), ?_⟩
    obtain ⟨b, r, eb⟩ : ∃ b r, bs = b :: r := by
      cases bs with
      | nil => exact absurd ok.pos (by decide)
      | cons b r => exact ⟨b, r, rfl⟩
    have hb2 := ok.two b (by rw [eb]; exact List.mem_cons_self)
    refine ⟨_, rfl, a, bs, rfl, hS, ok, fun H1 q S1 hq h1 => ?_⟩
    refine ⟨q, _, 0, prd r, rfl, rfl, .inr h1, by rw [eb]; rfl, ?_⟩
    refine ⟨_, rfl, a, bs, 0, b, rfl, rfl, hS.same S1, by rw [eb]; rfl, _, _, rfl, rfl, by omega, by omega, ?_⟩
    have e : prd r * b = prd bs := by rw [eb, Int.mul_comm]; rfl
    rw [e]
    exact k _ S1
theorem scSp : FnScope ["value", "bases", "found", "rest", "base"] ["value", "bases"] (defScope sSpread) := ⟨rfl, rfl, rfl, by decide +kernel, rfl, by decide +kernel, by decide +kernel⟩
theorem ok_spread {f : Addr} {fd : FuncData} (F : Fun K "spread" "spread" sSpread f fd) (B : Bi mg) : FnOk P w K mg base CX0 1 f fd ["value", "bases"] spSpread := by
  refine F.ok scSp (fun vs H Q E h => ?_) (fun cdv A outer s H vs Q E hr h => ?_)
  · obtain ⟨v, a, bs, rfl, _⟩ := h
    rfl
  · obtain ⟨v, a, bs, rfl, hS, ok, k⟩ := h
    refine ⟨_, pss_cons (ps_set (i := 2) scSp.nd rfl (Or.inl rfl) (pe_lst pa_nil)) (pss_cons (ps_set (i := 3) scSp.nd rfl (Or.inl rfl) (pv 0))
      (pss_cons (ps_for PassesOwn.never rfl (pi_seqI (pe_revI (pv 1))) (pg_name (i := 4) scSp.nd rfl (Or.inl rfl))
        (pss_cons (ps_expr (pe_bm PySem.F.plainAttrs_list PySem.F.slot_list_append PySem.F.type_list_append mt_append (pv 2) (pa_cons (pe_op op_modP (pe_callTy call_int1 (by rfl) B.int bt_int (pa_cons (pv 3) pa_nil)) (pv 4)) pa_nil)))
          (pss_one (ps_set (i := 3) scSp.nd rfl (Or.inl rfl) (pe_op op_divP (pv 3) (pv 4))))))
      (pss_one (ps_ret (pe_revL (pv 2)))))), ?_⟩
    refine ⟨Nat.zero_le _, fun l hl => ?_⟩
    refine ⟨_, rfl, ?_⟩
    refine ⟨_, rfl, a, bs, rfl, hS.same (same_lay hl), fun p H2 hp S2 hR => ⟨p, bs.reverse, rfl, hR, fun J wk => ?_⟩⟩
    rw [List.length_reverse] at wk
    have nlp : l ≠ p := fun e => by rw [← e, upd_same] at hp; cases hp
    have hll : H2 l = some (.lst []) := S2 _ _ upd_same
    have S02 : Same H H2 := (same_lay hl).trans S2
    refine for_it wk (fun i σ H' => ∃ x, σ = [some (.int v), some (.ref a), some (.ref l), some (.int (v / prd (bs.drop (bs.length - i)))), x] ∧ Same H H' ∧ H' l = some (.lst ((digs v (bs.drop (bs.length - i))).reverse.map V.int)) ∧ H' p = H2 p) ?_ ?_ ?_ ?_
    · refine ⟨none, ?_, S02, ?_, rfl⟩
      · rw [suf_zero]
        show _ = [_, _, _, some (V.int (v / 1)), _]
        rw [Int.ediv_one]
        rfl
      · rw [suf_zero]
        exact hll
    · rintro i σ H' _ ⟨x, _, _, _, e⟩
      exact e
    · rintro i x σ H' _ hi ⟨y, rfl, S', hL, hP⟩ ⟨rfl, hx⟩
      obtain ⟨b, rfl, hb⟩ := map_get hx
      have hb2 := ok.two b (rev_mem hb)
      have es := suf_succ hb
      have hp0 := prd_pos (ok.two.drop (bs.length - i))
      have hlen : (digs v (bs.drop (bs.length - i))).length ≤ 4 := by rw [digs_len, List.length_drop]; have := ok.few; omega
      refine ⟨_, rfl, .inl ⟨rfl, _, SqL.of hL⟩, _, rfl, .inl ⟨_, rfl, ?_⟩⟩
      refine ⟨_, rfl, _, _, rfl, rfl, by omega, ?_⟩
      refine ⟨l, _, _, rfl, rfl, hL, by rw [List.length_map, List.length_reverse]; exact small1000 (by omega), ?_⟩
      refine ⟨_, rfl, _, rfl, _, _, rfl, rfl, by omega, by omega, ?_⟩
      refine ⟨some (.int b), ?_, same_put S' hl, ?_, by rw [upd_ne nlp.symm]; exact hP⟩
      · rw [es, div_more hp0]
        rfl
      · rw [es, upd_same]
        show _ = some (HO.lst (((v / prd (bs.drop (bs.length - i))) % b :: digs v (bs.drop (bs.length - i))).reverse.map V.int))
        rw [List.reverse_cons, List.map_append]
        rfl
    · rintro σ H' ⟨x, rfl, S', hL, hP⟩
      rw [suf_all] at hL
      refine ⟨_, rfl, l, _, rfl, SqL.of hL, fun q hq => ?_⟩
      refine k _ q (same_new S' hq) (S'.free hq) ?_
      rw [upd_same, ← List.map_reverse, List.reverse_reverse]
theorem scGa : FnScope ["digits", "bases", "value", "digit", "base"] ["digits", "bases"] (defScope sGathered) := ⟨rfl, rfl, rfl, by decide +kernel, rfl, by decide +kernel, by decide +kernel⟩
theorem ok_gathered {f : Addr} {fd : FuncData} (F : Fun K "gathered" "gathered" sGathered f fd) (B : Bi mg) : FnOk P w K mg base CX0 1 f fd ["digits", "bases"] spGathered := by
  refine F.ok scGa (fun vs H Q E h => ?_) (fun cdv A outer s H vs Q E hr h => ?_)
  · obtain ⟨d, a, v, bs, rfl, _⟩ := h
    rfl
  · obtain ⟨d, a, v, bs, rfl, hD, hS, ok, h0, h1, k⟩ := h
    refine ⟨_, pss_cons (ps_set (i := 2) scGa.nd rfl (Or.inl rfl) pe_int)
      (pss_cons (ps_for PassesOwn.never rfl (pi_zipI B.zip (pa_cons (pv 0) (pa_cons (pv 1) pa_nil))) (pg_tup rfl (pgs_cons (pg_name (i := 3) scGa.nd rfl (Or.inl rfl)) (pgs_cons (pg_name (i := 4) scGa.nd rfl (Or.inl rfl)) pgs_nil)))
        (pss_one (ps_set (i := 2) scGa.nd rfl (Or.inl rfl) (pe_op op_add (pe_op op_mulS (pv 2) (pv 4)) (pv 3)))))
      (pss_one (ps_ret (pv 2)))), ?_⟩
    refine ⟨_, rfl, _, rfl, d, a, _, bs, rfl, hD, hS, digs_len v bs, fun J wk => ?_⟩
    refine for_it wk (fun i σ H' => ∃ x y, σ = [some (.ref d), some (.ref a), some (.int (v / prd (bs.drop i))), x, y] ∧ Same H H') ?_ ?_ ?_ ?_
    · refine ⟨none, none, ?_, Same.refl H⟩
      rw [List.drop_zero, Int.ediv_eq_zero_of_lt h0 h1]
      rfl
    · rintro i σ H' _ ⟨x, y, _, S'⟩
      exact ⟨same_eq S' hD, hS.eq S'⟩
    · rintro i x σ H' H2 hi ⟨y, z, rfl, S'⟩ ⟨T, x1, x2, rfl, hT, rfl, e1, e2⟩
      obtain ⟨dg, rfl, hdg⟩ := map_get e1
      obtain ⟨b, rfl, hb⟩ := map_get e2
      have hb2 := ok.two b (List.mem_of_getElem? hb)
      have hp0 := prd_pos (ok.two.drop (i + 1))
      rw [digs_get v hb] at hdg
      have hdg' := Option.some.inj hdg
      refine ⟨T, _, rfl, SqT.of upd_same, rfl, ?_⟩
      refine ⟨_, _, rfl, _, _, rfl, rfl, ?_⟩
      refine ⟨_, rfl, _, rfl, _, _, rfl, rfl, by omega, by omega, _, rfl, _, _, rfl, rfl, ?_⟩
      refine ⟨some (.int dg), some (.int b), ?_, same_new S' hT⟩
      have e : v / prd (bs.drop i) * b + dg = v / prd (bs.drop (i + 1)) := by
        rw [drop_at hb, ← hdg']
        exact gather_step hp0
      rw [← e]
      rfl
    · rintro σ H' ⟨x, y, rfl, S'⟩
      refine ⟨_, rfl, ?_⟩
      rw [List.drop_length]
      show Q (.int (v / 1)) H'
      rw [Int.ediv_one]
      exact k _ S'
theorem scFw : FnScope ["digits", "bases", "place", "base"] ["digits", "bases"] (defScope sFirstWrong) := ⟨rfl, rfl, rfl, by decide +kernel, rfl, by decide +kernel, by decide +kernel⟩
theorem ok_firstWrong {f : Addr} {fd : FuncData} (F : Fun K "first_wrong" "first_wrong" sFirstWrong f fd) (B : Bi mg) (cW : CallF P w K mg base CX0 1 "is_whole" spIsWhole) : FnOk P w K mg base CX0 2 f fd ["digits", "bases"] spFirstWrong := by
  refine F.ok scFw (fun vs H Q E h => ?_) (fun cdv A outer s H vs Q E hr h => ?_)
  · obtain ⟨d, a, v, bs, rfl, _⟩ := h
    rfl
  · obtain ⟨d, a, v, bs, rfl, hD, hS, ok, k⟩ := h
    refine ⟨_, pss_cons (ps_for PassesOwn.never rfl (pi_enumI B.enumerate (pa_cons (pv 1) pa_nil)) (pg_tup rfl (pgs_cons (pg_name (i := 2) scFw.nd rfl (Or.inl rfl)) (pgs_cons (pg_name (i := 3) scFw.nd rfl (Or.inl rfl)) pgs_nil)))
        (pss_one (ps_if (PW.pt (pw_or (pt_not (pt_val (pe_cf cW hr L2.pass0 (pa_cons (pe_ix ix_I (pv 0) (pv 2) (fun _ _ => rfl)) pa_nil))))
          (pw_or1 (pt_not (pt_chain op_leY op_ltY pe_int (pe_ix ix_I (pv 0) (pv 2) (fun _ _ => rfl)) (pv 3)))))) (pss_one (ps_ret (pv 2))) pss_nil)))
      (pss_one (ps_ret pe_non)), ?_⟩
    refine ⟨_, rfl, a, bs, rfl, hS, fun J wk => ?_⟩
    refine for_it wk (fun i σ H' => ∃ x y, σ = [some (.ref d), some (.ref a), x, y] ∧ Same H H') ⟨none, none, rfl, Same.refl H⟩ ?_ ?_ ?_
    · rintro i σ H' _ ⟨x, y, _, S'⟩
      exact hS.eq S'
    · rintro i x σ H' H2 hi ⟨y, z, rfl, S'⟩ ⟨T, x1, x2, rfl, hT, rfl, e1, e2⟩
      obtain ⟨b, rfl, hb⟩ := map_get e2
      cases Option.some.inj e1
      have hdg := digs_get v hb
      have hok := digs_ok v ok.two hb
      have S2 := same_new (o := .tup [.int (i : Nat), .int b]) S' hT
      have hD2 : Sq (upd H' T (.tup [.int (i : Nat), .int b])) d (digs v bs) := .inl (S2 _ _ hD)
      refine ⟨T, _, rfl, SqT.of upd_same, rfl, ?_⟩
      refine ⟨_, _, rfl, _, _, rfl, rfl, ?_⟩
      refine ⟨_, rfl, _, rfl, d, _, i, _, rfl, rfl, hD2, hdg, _, rfl, true, rfl, ?_⟩
      refine iteF ?_
      refine ⟨_, rfl, _, rfl, d, _, i, _, rfl, rfl, hD2, hdg, _, _, rfl, rfl, hok.1, true, rfl, ?_⟩
      refine iteT ?_
      refine ⟨_, rfl, _, _, rfl, rfl, hok.2, true, rfl, ?_⟩
      exact iteF ⟨_, _, rfl, S2⟩
    · rintro σ H' ⟨x, y, rfl, S'⟩
      exact k _ S'
end
end K7

/-! A numeral: its fields, what stands at it; __init__. -/
namespace K7
open PySem PySem.Spec PyProof.Rows L2 StX
section
variable {X : Cx}
theorem op_neN : OpR X (compareOp .NotEq) (fun x y H Q => ∃ i, x = .int i ∧ y = .int i ∧ Q (.bl false) H) := OpRimp op_ne fun x y H Q ⟨i, ex, ey, q⟩ => by
  subst ex ey
  refine ⟨rfl, ?_⟩
  rw [decide_eq_true rfl]
  exact q
theorem op_notNN : OpR X (compareOp .IsNot) (fun x y H Q => x = .non ∧ y = .non ∧ Q (.bl false) H) := OpRimp op_notN fun x y H Q ⟨ex, ey, q⟩ => by
  subst ex
  exact ⟨ey, q⟩
end
def nf (d b : Addr) (v : Int) : List (Str × V) := putF "value" (.int v) (putF "bases" (.ref b) (putF "digits" (.ref d) []))
theorem nf_value (d b : Addr) (v : Int) : (nf d b v).lookup ("value" : Str) = some (.int v) := by
  unfold nf
  rw [lookup_putF, if_pos rfl]
theorem nf_bases (d b : Addr) (v : Int) : (nf d b v).lookup ("bases" : Str) = some (.ref b) := by
  unfold nf
  rw [lookup_putF, if_neg (by decide +kernel), lookup_putF, if_pos rfl]
theorem nf_digits (d b : Addr) (v : Int) : (nf d b v).lookup ("digits" : Str) = some (.ref d) := by
  unfold nf
  rw [lookup_putF, if_neg (by decide +kernel), lookup_putF, if_neg (by decide +kernel), lookup_putF, if_pos rfl]
theorem nf_no (d b : Addr) (v : Int) {m : Str} (h1 : ¬ m = "value") (h2 : ¬ m = "bases") (h3 : ¬ m = "digits") : (nf d b v).lookup m = none := by
  unfold nf
  rw [lookup_putF, if_neg h1, lookup_putF, if_neg h2, lookup_putF, if_neg h3]
  all_goals rfl
/-- at p a numeral of the bases bs, of value v -/
def NumAt (C : Addr) (H : Hp) (p : Addr) (bs : List Int) (v : Int) : Prop := ∃ dx dt bt : Addr, H p = some (.ins C dx (nf dt bt v)) ∧ H dt = some (.tup ((digs v bs).map V.int)) ∧ H bt = some (.tup (bs.map V.int)) ∧ OkB bs ∧ 0 ≤ v ∧ v < prd bs
theorem NumAt.same {C : Addr} {H H' : Hp} {p : Addr} {bs : List Int} {v : Int} (h : NumAt C H p bs v) (s : Same H H') : NumAt C H' p bs v :=
  let ⟨dx, dt, bt, h1, h2, h3, h4⟩ := h
  ⟨dx, dt, bt, s _ _ h1, s _ _ h2, s _ _ h3, h4⟩
/-- all but p is as it was -/
def Keep (p : Addr) (H H' : Hp) : Prop := ∀ b o, b ≠ p → H b = some o → H' b = some o
theorem Keep.of {p : Addr} {H H' : Hp} (s : Same H H') : Keep p H H' := fun b o _ e => s b o e
theorem Keep.trans {p : Addr} {H H1 H2 : Hp} (s : Keep p H H1) (t : Keep p H1 H2) : Keep p H H2 := fun b o n e => t b o n (s b o n e)
theorem Keep.put {p : Addr} {H H1 : Hp} {o : HO} (s : Keep p H H1) : Keep p H (upd H1 p o) := fun b u n e => by
  rw [upd_ne n]
  exact s b u n e
theorem Keep.sq {p : Addr} {H H1 : Hp} {a : Addr} {ns : List Int} (s : Keep p H H1) (n : a ≠ p) (h : Sq H a ns) : Sq H1 a ns := h.elim (fun q => .inl (s _ _ n q)) fun q => .inr (s _ _ n q)
/-- what the top has written of the class Numeral, at C -/
structure NTx (K : PySem.W.Frag) (C : Addr) : Prop where
  cl : Cls K C
  nD : NoAttr K C "digits"
  nB : NoAttr K C "bases"
  nV : NoAttr K C "value"
def spInit (C : Addr) : Sp := fun vs H Q _ => ∃ p dx d a v bs, vs = [.ref p, .ref d, .ref a] ∧ H p = some (.ins C dx []) ∧ H d = some (.lst ((digs v bs).map V.int)) ∧ Sq H a bs ∧ OkB bs ∧ 0 ≤ v ∧ v < prd bs ∧
  ∀ H', Keep p H H' → NumAt C H' p bs v → Q .non H'
section
variable {P : Program} {w : World} {K : PySem.W.Frag} {mg : Str → Option Value} {base : Heap} {C : Addr}
theorem scI : FnScope ["self", "digits", "bases", "wrong"] ["self", "digits", "bases"] (defScope sInit) := ⟨rfl, rfl, rfl, by decide +kernel, rfl, by decide +kernel, by decide +kernel⟩
theorem ok_init {f : Addr} {fd : FuncData} (F : Fun K "__init__" "Numeral.__init__" sInit f fd) (B : Bi mg) (T : NTx K C) (cN : CallF P w K mg base CX0 3 "need_bases" spNeed) (cF : CallF P w K mg base CX0 2 "first_wrong" spFirstWrong)
    (cG : CallF P w K mg base CX0 1 "gathered" spGathered) : FnOk P w K mg base CX0 4 f fd ["self", "digits", "bases"] (spInit C) := by
  refine F.ok scI (fun vs H Q E h => ?_) (fun cdv A outer s H vs Q E hr h => ?_)
  · obtain ⟨p, dx, d, a, v, bs, rfl, _⟩ := h
    rfl
  · obtain ⟨p, dx, d, a, v, bs, rfl, hp, hd, hS, ok, h0, h1, k⟩ := h
    have hr2 : Room 2 _ := hr.mono (by decide)
    have hr1 : Room 1 _ := hr.mono (by decide)
    refine ⟨_, pss_cons (ps_expr (pe_cf cN hr L2.pass0 (pa_cons (pv 2) pa_nil)))
      (pss_cons (ps_if (PW.pt (pw_or (pt_not (pt_val (pe_callB call_isiT (by rfl) B.isinstance bt_isinstance (pa_cons (pv 1) (pa_cons (pe_tup (pa_cons (pe_ty B.tuple bt_tuple) (pa_cons (pe_ty B.list bt_list) pa_nil))) pa_nil)))))
        (pw_or1 (pt_cmpR op_neN (pe_callB call_lenI (by rfl) B.len bt_len (pa_cons (pv 1) pa_nil)) (pe_callB call_lenI (by rfl) B.len bt_len (pa_cons (pv 2) pa_nil)) (nomark _))))) (pss_one ps_never) pss_nil)
      (pss_cons (ps_set (i := 3) scI.nd rfl (Or.inl rfl) (pe_cf cF hr2 L2.pass0 (pa_cons (pv 1) (pa_cons (pv 2) pa_nil))))
      (pss_cons (ps_if (pt_cmpR op_notNN (pv 3) pe_non (nomark _)) (pss_one ps_never) pss_nil)
      (pss_cons (ps_fld (pv 0) (pe_callTy call_tuple_of (by rfl) B.tuple bt_tuple (pa_cons (pv 1) pa_nil)) rfl)
      (pss_cons (ps_fld (pv 0) (pe_callTy call_tuple_of (by rfl) B.tuple bt_tuple (pa_cons (pv 2) pa_nil)) rfl)
      (pss_one (ps_fld (pv 0) (pe_cf cG hr1 L2.pass0 (pa_cons (pv 1) (pa_cons (pv 2) pa_nil))) rfl))))))), ?_⟩
    refine ⟨_, rfl, a, bs, rfl, hS, ok, fun H1 S1 => ?_⟩
    refine ⟨_, rfl, (by show 2 ≤ sizeLine; decide), fun T1 hT => ?_⟩
    have S2 : Same H (upd H1 T1 (.tup [.ty "tuple", .ty "list"])) := same_new S1 hT
    have hd2 := S2 _ _ hd
    refine ⟨.ref d, T1, _, .type "list", _, true, rfl, upd_same, .cons (.ty _) (.cons (.ty _) .nil), .base (.lst hd2), kitAny_cons (b := false) (kit_ty (by decide +kernel)) (fun _ => kitAny_cons (b := true) (kit_ty (by decide +kernel)) (fun z => nomatch z) fun _ => rfl) (fun z => nomatch z), true, rfl, ?_⟩
    refine iteF ?_
    refine ⟨_, rfl, d, _, rfl, .inl hd2, _, rfl, a, _, rfl, hS.same S2, _, rfl, ?_⟩
    refine ⟨by rw [digs_len], false, rfl, ?_⟩
    refine iteF ?_
    refine ⟨_, rfl, _, rfl, d, a, v, bs, rfl, hd2, hS.same S2, ok, fun H3 S3' => ?_⟩
    have S3 : Same H H3 := S2.trans S3'
    refine ⟨_, rfl, rfl, rfl, false, rfl, ?_⟩
    refine iteF ?_
    have hp3 := S3 _ _ hp
    have hd3 := S3 _ _ hd
    refine ⟨_, rfl, d, _, rfl, .inl ⟨SqL.of hd3, fun l hl => ?_⟩⟩
    have nlp : l ≠ p := (ne_of_none hp3 hl).symm
    have hp4 : upd H3 l (.tup ((digs v bs).map V.int)) p = some (.ins C dx []) := by rw [upd_ne nlp.symm]; exact hp3
    have ndp : d ≠ p := ne_of hd hp (by intro q; cases q)
    have nap : a ≠ p := hS.elim (fun q => ne_of q hp (by intro q; cases q)) fun q => ne_of q hp (by intro q; cases q)
    refine ⟨_, rfl, p, C, dx, [], rfl, hp4, T.cl, T.nD, (by show 0 < 1000; decide), ?_⟩
    have K5 : Keep p H (upd (upd H3 l (.tup ((digs v bs).map V.int))) p (.ins C dx (putF "digits" (.ref l) []))) := (Keep.of (same_new S3 hl)).put
    have hl5 : upd (upd H3 l (.tup ((digs v bs).map V.int))) p (.ins C dx (putF "digits" (.ref l) [])) l = some (.tup ((digs v bs).map V.int)) := by rw [upd_ne nlp, upd_same]
    have hp5 : upd (upd H3 l (.tup ((digs v bs).map V.int))) p (.ins C dx (putF "digits" (.ref l) [])) p = some (.ins C dx (putF "digits" (.ref l) [])) := upd_same
    revert K5 hl5 hp5
    generalize upd (upd H3 l (.tup ((digs v bs).map V.int))) p (.ins C dx (putF "digits" (.ref l) [])) = H5
    intro K5 hl5 hp5
    have rest : ∀ (m : Addr) (H6 : Hp), Same H5 H6 → H6 m = some (.tup (bs.map V.int)) → tSeq (sFld K (tVar 0) (tC (.ref m)) "bases") (sFld K (tVar 0) (tCallR spGathered E0 (tCons (tVar 1) (tCons (tVar 2) tNil))) "value")
        { nx := fun _ H' => Q .non H', rt := Q } [some (.ref p), some (.ref d), some (.ref a), some .non] H6 := by
      intro m H6 S6 hm
      have hp6 := S6 _ _ hp5
      have nmp : m ≠ p := ne_of hm hp6 (by intro q; cases q)
      refine ⟨_, rfl, p, C, dx, _, rfl, hp6, T.cl, T.nB, (by show 1 < 1000; decide), ?_⟩
      have K7' : Keep p H (upd H6 p (.ins C dx (putF "bases" (.ref m) (putF "digits" (.ref l) [])))) := (K5.trans (Keep.of S6)).put
      refine ⟨_, rfl, _, rfl, d, a, v, bs, rfl, K7' _ _ ndp hd, K7'.sq nap hS, ok, h0, h1, fun H8 S8 => ?_⟩
      refine ⟨_, rfl, p, C, dx, _, rfl, S8 _ _ upd_same, T.cl, T.nV, ?_, ?_⟩
      · have e : putF "bases" (V.ref m) (putF "digits" (.ref l) []) = [(("digits" : Str), V.ref l), (("bases" : Str), V.ref m)] := by
          show (if ("digits" : Str) = "bases" then _ else (("digits" : Str), V.ref l) :: putF "bases" (V.ref m) []) = _
          rw [if_neg (by decide +kernel)]
          rfl
        rw [e]
        show 2 < 1000
        decide
      · refine k _ ((K7'.trans (Keep.of S8)).put) ⟨dx, l, m, upd_same, ?_, ?_, ok, h0, h1⟩
        · rw [upd_ne nlp]
          refine S8 _ _ ?_
          rw [upd_ne nlp]
          exact S6 _ _ hl5
        · rw [upd_ne nmp]
          refine S8 _ _ ?_
          rw [upd_ne nmp]
          exact hm
    rcases K5.sq nap hS with hS5 | hS5
    · refine ⟨_, rfl, a, _, rfl, .inl ⟨SqL.of hS5, fun m hm => ?_⟩⟩
      exact rest m _ (same_lay hm) upd_same
    · refine ⟨_, rfl, a, _, rfl, .inr ⟨SqT.of hS5, ?_⟩⟩
      exact rest a _ (Same.refl _) hS5
end
end K7

/-! == of lists and tuples of ints. -/
namespace K7
open PySem PySem.Spec PyProof.Rows L2 StX
def dI (ns : List Int) : List PyData := ns.map PyData.int
theorem eqv_ints : ∀ xs ys : List Int, PyData.eqvAll (dI xs) (dI ys) = decide (xs = ys)
  | [], [] => by simp [dI, PyData.eqvAll]
  | [], y :: ys => by simp [dI, PyData.eqvAll]
  | x :: xs, [] => by simp [dI, PyData.eqvAll]
  | x :: xs, y :: ys => by
    have ih := eqv_ints xs ys
    show (PyData.eqv (.int x) (.int y) && PyData.eqvAll (dI xs) (dI ys)) = _
    rw [ih]
    show ((x == y) && decide (xs = ys)) = _
    by_cases h1 : x = y <;> by_cases h2 : xs = ys <;> simp [h1, h2]
theorem lay_ints : ∀ xs : List Int, PyData.canLayAll0 (dI xs) = true
  | [] => rfl
  | x :: xs => by
    show (true && PyData.canLayAll0 (dI xs)) = true
    rw [lay_ints xs]
    rfl
theorem depth_ints : ∀ xs : List Int, PyData.depthAll (dI xs) = 0
  | [] => rfl
  | x :: xs => by
    show max 0 (PyData.depthAll (dI xs)) = 0
    rw [depth_ints xs]
    rfl
theorem shaped_list (xs : List Int) : SeqAt.shaped (.list (dI xs)) = true := by
  show (PyData.canLayAll0 (dI xs) && decide (PyData.depthAll (dI xs) + 1 ≤ 64)) = true
  rw [lay_ints, depth_ints]
  rfl
theorem shaped_tup (xs : List Int) : SeqAt.shaped (.tuple (dI xs)) = true := by
  show (PyData.canLayAll0 (dI xs) && decide (PyData.depthAll (dI xs) + 1 ≤ 64)) = true
  rw [lay_ints, depth_ints]
  rfl
theorem shaped_pair (xs : List Int) (v : Int) : SeqAt.shaped (.tuple [.tuple (dI xs), .int v]) = true := by
  show (((PyData.canLayAll0 (dI xs)) && (true && true)) && decide (max (PyData.depthAll (dI xs) + 1) (max 0 0) + 1 ≤ 64)) = true
  rw [lay_ints, depth_ints]
  rfl
theorem dp_all {K : PySem.W.Frag} {H : Hp} : ∀ ns : List Int, DpAll K H (ns.map V.int) (dI ns)
  | [] => .nil
  | n :: ns => .cons (.int n) (dp_all ns)
section
variable {X : Cx}
def rEqL (neg : Bool) : R2 := fun x y H Q => ∃ (a b : Addr) (xs ys : List Int), x = .ref a ∧ y = .ref b ∧ H a = some (.lst (xs.map V.int)) ∧ H b = some (.lst (ys.map V.int)) ∧ Q (.bl (neg != decide (xs = ys))) H
def rEqTI (neg : Bool) : R2 := fun x y H Q => ∃ (a b : Addr) (xs ys : List Int), x = .ref a ∧ y = .ref b ∧ H a = some (.tup (xs.map V.int)) ∧ H b = some (.tup (ys.map V.int)) ∧ Q (.bl (neg != decide (xs = ys))) H
theorem bx (b : Bool) : (true != b) = !b := by cases b <;> rfl
theorem bx0 (b : Bool) : (false != b) = b := by cases b <;> rfl
theorem op_eqL (hu : X.A.units + 64 < cLine) : OpR X (compareOp .Eq) (rEqL false) := OpRimp (op_eqD hu) fun x y H Q ⟨a, b, xs, ys, ex, ey, ha, hb, q⟩ => by
  subst ex ey
  refine ⟨_, _, .lst (SqL.of ha) (dp_all xs), .lst (SqL.of hb) (dp_all ys), shaped_list xs, shaped_list ys, ?_⟩
  show Q (.bl (PyData.eqvAll (dI xs) (dI ys))) H
  rw [eqv_ints, ← bx0 (decide (xs = ys))]
  exact q
theorem op_neL (hu : X.A.units + 64 < cLine) : OpR X (compareOp .NotEq) (rEqL true) := OpRimp (op_neD hu) fun x y H Q ⟨a, b, xs, ys, ex, ey, ha, hb, q⟩ => by
  subst ex ey
  refine ⟨_, _, .lst (SqL.of ha) (dp_all xs), .lst (SqL.of hb) (dp_all ys), shaped_list xs, shaped_list ys, ?_⟩
  show Q (.bl (!PyData.eqvAll (dI xs) (dI ys))) H
  rw [eqv_ints, ← bx (decide (xs = ys))]
  exact q
theorem op_neTI (hu : X.A.units + 64 < cLine) : OpR X (compareOp .NotEq) (rEqTI true) := OpRimp (op_neD hu) fun x y H Q ⟨a, b, xs, ys, ex, ey, ha, hb, q⟩ => by
  subst ex ey
  refine ⟨_, _, .tup (SqT.of ha) (dp_all xs), .tup (SqT.of hb) (dp_all ys), shaped_tup xs, shaped_tup ys, ?_⟩
  show Q (.bl (!PyData.eqvAll (dI xs) (dI ys))) H
  rw [eqv_ints, ← bx (decide (xs = ys))]
  exact q
/-- (bases, value) == (bases, value) -/
def rEqP : R2 := fun x y H Q => ∃ (a b c d : Addr) (xs ys : List Int) (v u : Int), x = .ref a ∧ y = .ref b ∧ H a = some (.tup [.ref c, .int v]) ∧ H b = some (.tup [.ref d, .int u]) ∧ H c = some (.tup (xs.map V.int)) ∧ H d = some (.tup (ys.map V.int)) ∧ Q (.bl (decide (xs = ys ∧ v = u))) H
theorem op_eqP (hu : X.A.units + 64 < cLine) : OpR X (compareOp .Eq) rEqP := OpRimp (op_eqD hu) fun x y H Q ⟨a, b, c, d, xs, ys, v, u, ex, ey, ha, hb, hc, hd, q⟩ => by
  subst ex ey
  refine ⟨_, _, .tup (SqT.of ha) (.cons (.tup (SqT.of hc) (dp_all xs)) (.cons (.int v) .nil)), .tup (SqT.of hb) (.cons (.tup (SqT.of hd) (dp_all ys)) (.cons (.int u) .nil)), shaped_pair xs v, shaped_pair ys u, ?_⟩
  show Q (.bl (PyData.eqvAll (dI xs) (dI ys) && ((v == u) && true))) H
  have e : (PyData.eqvAll (dI xs) (dI ys) && ((v == u) && true)) = decide (xs = ys ∧ v = u) := by
    rw [eqv_ints]
    by_cases h1 : xs = ys <;> by_cases h2 : v = u <;> simp [h1, h2]
  rw [e]
  exact q
end
end K7

/-! Numeral: of, made, need_like, amount, changed, ==, +, len, [i]; carry. -/
namespace K7
open PySem PySem.Spec PyProof.Rows L2 StX
section
variable {X : Cx}
def rNeI : R2 := fun x y H Q => ∃ i j : Int, x = .int i ∧ y = .int j ∧ Q (.bl (!decide (i = j))) H
theorem op_neI : OpR X (compareOp .NotEq) rNeI := OpRimp op_ne fun x y H Q ⟨i, j, ex, ey, q⟩ => by
  subst ex ey
  refine ⟨rfl, ?_⟩
  have e : decide (V.int i = V.int j) = decide (i = j) := by
    by_cases h : i = j
    · subst h; simp
    · simp [h]
  rw [e]
  exact q
theorem op_eqI : OpR X (compareOp .Eq) (fun x y H Q => ∃ i j : Int, x = .int i ∧ y = .int j ∧ Q (.bl (decide (i = j))) H) := OpRimp op_eq fun x y H Q ⟨i, j, ex, ey, q⟩ => by
  subst ex ey
  refine ⟨rfl, ?_⟩
  have e : decide (V.int i = V.int j) = decide (i = j) := by
    by_cases h : i = j
    · subst h; simp
    · simp [h]
  rw [e]
  exact q
/-- what leaves the def may leave a call in it -/
theorem passX {E : XK} (tk : Takes X (fun cls d _ H => E cls d H)) : Passes (L2.CX X.prog X.w) X E := fun pins σ H s e s' I c => passAt tk σ pins H s e s' I c
end
/-- a method of the class at C, with its promise -/
abbrev MethF (P : Program) (w : World) (K : PySem.W.Frag) (mg : Str → Option Value) (base : Heap) (C : Addr) (CX : CXT) (k : Nat) (m : Str) (sp : Sp) : Prop := ∃ f, FnR P w K mg base CX k f sp ∧ Meth K C m f
/-- further facts of the class Numeral -/
structure NTy (K : PySem.W.Frag) (mg : Str → Option Value) (C : Addr) : Prop extends NTx K C where
  ca : PySem.W.findIn K (.ref C) "__class__" = some (some (.builtin "object.__class__"))
  cn : PySem.W.specialIn K (.builtin "object.__class__") "__get__" = some (some (.builtin "getset_descriptor.__get__"))
  ct : PySem.W.takesIn K (.builtin "object.__class__") = some true
  cm : PySem.W.mroIn K C (.type "object") = some true
  kin : PySem.W.kitOne K (.type "int") (.ref C) = some false
  mgC : mg "Numeral" = some (.ref C)
theorem NTy.ty {K : PySem.W.Frag} {mg : Str → Option Value} {C a dx : Addr} {H : Hp} {fs : List (Str × V)} (T : NTy K mg C) (e : H a = some (.ins C dx fs)) : TyX K H (.ref a) (.ref C) := .base (.ins e T.cl T.ca T.cn T.ct T.cm)
theorem kit_self {K : PySem.W.Frag} {C : Addr} : PySem.W.kitOne K (.ref C) (.ref C) = some true := by
  unfold PySem.W.kitOne
  simp
/-! ### promises -/
/-- what the error Overflow leaves: its own dict, new, keeps the value -/
def Over (CO : Addr) (u : Int) (H : Hp) (E : XK) : Prop := ∀ H' d, Same H H' → H d = none → H' d = some (.xd [(("value" : Str), .int u)]) → E (.ref CO) (some d) H'
/-- a new numeral -/
def New (C : Addr) (bs : List Int) (u : Int) (H : Hp) (Q : VK) : Prop := ∀ H' q, Same H H' → H q = none → NumAt C H' q bs u → Q (.ref q) H'
def spOvI (CO : Addr) : Sp := fun vs H Q _ => ∃ a y, vs = [.ref a, y] ∧ H a = some (exo a CO none) ∧ ∀ dx, H dx = none → dx ≠ a → Q .non (upd (upd H dx (exd dx [(("value" : Str), y)])) a (exo a CO (some dx)))
def spOf (C : Addr) : Sp := fun vs H Q _ => ∃ v a bs, vs = [.ref C, .int v, .ref a] ∧ Sq H a bs ∧ OkB bs ∧ 0 ≤ v ∧ v < prd bs ∧ New C bs v H Q
def spMade (C CO : Addr) : Sp := fun vs H Q E => ∃ p bs v u, vs = [.ref p, .int u] ∧ NumAt C H p bs v ∧ (0 ≤ u ∧ u < prd bs → New C bs u H Q) ∧ (¬ (0 ≤ u ∧ u < prd bs) → Over CO u H E)
def spLike (C CU : Addr) : Sp := fun vs H Q E => ∃ p q bs cs v u, vs = [.ref p, .ref q] ∧ NumAt C H p bs v ∧ NumAt C H q cs u ∧ (bs = cs → Q .non H) ∧ (bs ≠ cs → E (.ref CU) none H)
def spAmount : Sp := fun vs H Q _ => ∃ p i, vs = [.ref p, .int i] ∧ Q (.int i) H
def chI (xs ys : List Int) : List Int := (chgs xs ys).map fun i => ((i : Nat) : Int)
def spChanged (C : Addr) : Sp := fun vs H Q _ => ∃ p q bs v u, vs = [.ref p, .ref q] ∧ NumAt C H p bs v ∧ NumAt C H q bs u ∧ ∀ H' r, Same H H' → H r = none → H' r = some (.lst ((chI (digs v bs) (digs u bs)).map V.int)) → Q (.ref r) H'
def spEq (C : Addr) : Sp := fun vs H Q _ => ∃ p q bs cs v u, vs = [.ref p, .ref q] ∧ NumAt C H p bs v ∧ NumAt C H q cs u ∧ ∀ H', Same H H' → Q (.bl (decide (bs = cs ∧ v = u))) H'
def spAdd (C CO : Addr) : Sp := fun vs H Q E => ∃ p bs v i, vs = [.ref p, .int i] ∧ NumAt C H p bs v ∧ (0 ≤ v + i ∧ v + i < prd bs → New C bs (v + i) H Q) ∧ (¬ (0 ≤ v + i ∧ v + i < prd bs) → Over CO (v + i) H E)
def spLen (C : Addr) : Sp := fun vs H Q _ => ∃ p bs v, vs = [.ref p] ∧ NumAt C H p bs v ∧ Q (.int (bs.length : Nat)) H
def spItem (C : Addr) : Sp := fun vs H Q _ => ∃ p bs v, ∃ (i : Nat) (d : Int), vs = [.ref p, .int (i : Nat)] ∧ NumAt C H p bs v ∧ (digs v bs)[i]? = some d ∧ Q (.int d) H
def spCarry (C CO : Addr) : Sp := fun vs H Q E => ∃ p bs v, vs = [.ref p] ∧ NumAt C H p bs v ∧
  (v + 1 < prd bs → ∀ H' r, Same H H' → H r = none → H' r = some (.lst ((chI (digs v bs) (digs (v + 1) bs)).reverse.map V.int)) → Q (.ref r) H') ∧ (¬ v + 1 < prd bs → Over CO (v + 1) H E)
section
variable {P : Program} {w : World} {K : PySem.W.Frag} {mg : Str → Option Value} {base : Heap} {C CO CU : Addr}
/-! ### Overflow.__init__ -/
abbrev sOvI : Stmt := inClass (top 5) 0
theorem scOv : FnScope ["self", "value"] ["self", "value"] (defScope sOvI) := ⟨rfl, rfl, rfl, by decide +kernel, rfl, by decide +kernel, by decide +kernel⟩
theorem ok_ovI {f : Addr} {fd : FuncData} (F : Fun K "__init__" "Overflow.__init__" sOvI f fd) (T : OexC K CO) (hn : PySem.W.findIn K (.ref CO) "value" = some none) : FnOk P w K mg base CX0 1 f fd ["self", "value"] (spOvI CO) := by
  refine F.ok scOv (fun vs H Q E h => ?_) (fun cdv A outer s H vs Q E hr h => ?_)
  · obtain ⟨a, y, rfl, _⟩ := h
    rfl
  · obtain ⟨a, y, rfl, ha, k⟩ := h
    exact ⟨_, pss_one (ps_ost (pv 0) (pv 1)), _, rfl, _, rfl, a, CO, rfl, T, hn, .inl ⟨ha, k⟩⟩
/-- Overflow(e), made: facts -/
structure OvT (P : Program) (w : World) (K : PySem.W.Frag) (mg : Str → Option Value) (base : Heap) (CO : Addr) : Prop where
  oex : OexC K CO
  mgO : mg "Overflow" = some (.ref CO)
  fn : ∃ f fd, FnOk P w K mg base CX0 1 f fd ["self", "value"] (spOvI CO) ∧ Binds K fd ["self", "value"] [] ∧ PySem.W.findIn K (.ref CO) "__init__" = some (some (.ref f)) ∧ PySem.W.typeIn K (.ref f) = some (.type "function")
def tMkOv (CO : Addr) (ta : TA) : L2.St → Hp → XK → Prop := fun σ H Q => ta σ H fun vs H1 => ∃ u : Int, vs = [.int u] ∧ Over CO u H1 Q
theorem pmk_ov {X : Cx} {e : Expr} {ta : TA} {p pos : Pos} (T : OvT X.prog X.w X.K X.mg X.base CO) (hr : Room 2 X.A) (ha : PA X [e] ta) (hg : Gl X "Overflow" := by rfl)
    (he : starEach [e] X.env = (false, eval e X.env) :: starEach [] X.env := by rfl) (hpl : (backTo pos (starEach [] X.env)).any (·.1) = false := by rfl) :
    PMk X (.Call (.Name "Overflow" p) [e] [] pos) (tMkOv CO ta) := by
  obtain ⟨f, fd, F, hb, iC, tI⟩ := T.fn
  intro pins s σ H Q I h
  refine pmk_oex T.oex iC tI F hr hb .nil L2.pass0 hg T.mgO (PAup ha) (by decide) he hpl pins s σ H Q I ⟨_, h, ?_⟩
  rintro vs H1 ⟨u, rfl, q⟩
  refine ⟨by show 1 ≤ 1000; decide, fun a ha => ?_⟩
  refine ⟨a, .int u, rfl, upd_same, fun dx hdx ne => ⟨rfl, dx, [(("value" : Str), .int u)], upd_same, by rw [upd_ne ne, upd_same], ?_, ?_⟩⟩
  · rw [upd_ne ne] at hdx
    exact hdx
  · have hdx1 : H1 dx = none := by
      rw [upd_ne ne] at hdx
      exact hdx
    refine q _ dx (fun b o e => ?_) hdx1 upd_same
    have n1 := ne_of_none e hdx1
    have n2 := ne_of_none e ha
    rw [upd_ne n1, del_ne n2, upd_ne n2, upd_ne n1, upd_ne n2]
    exact e
/-! ### of, made -/
theorem keep_new {H H' : Hp} {x dx : Addr} {o : HO} (hx : H x = none) (hdx : H dx = none) (s : Keep x (upd (upd H dx (.own x)) x o) H') : Same H H' := fun b u e => by
  have n1 := ne_of_none e hx
  refine s b u n1 ?_
  rw [upd_ne n1, upd_ne (ne_of_none e hdx)]
  exact e
theorem scOf : FnScope ["cls", "value", "bases"] ["cls", "value", "bases"] (defScope sOf) := ⟨rfl, rfl, rfl, by decide +kernel, rfl, by decide +kernel, by decide +kernel⟩
theorem ok_of {f fI : Addr} {fd : FuncData} (F : Fun K "of" "Numeral.of" sOf f fd) (M : Mk K C fI) (cI : FnR P w K mg base CX0 4 fI (spInit C)) (cN : CallF P w K mg base CX0 3 "need_bases" spNeed) (cC : CallF P w K mg base CX0 5 "count_of" spCount) (cS : CallF P w K mg base CX0 1 "spread" spSpread) :
    FnOk P w K mg base CX0 6 f fd ["cls", "value", "bases"] (spOf C) := by
  refine F.ok scOf (fun vs H Q E h => ?_) (fun cdv A outer s H vs Q E hr h => ?_)
  · obtain ⟨v, a, bs, rfl, _⟩ := h
    rfl
  · obtain ⟨v, a, bs, rfl, hS, ok, h0, h1, k⟩ := h
    have hr3 : Room 3 _ := hr.mono (by decide)
    have hr1 : Room 1 _ := hr.mono (by decide)
    refine ⟨_, pss_cons (ps_expr (pe_cf cN hr3 L2.pass0 (pa_cons (pv 2) pa_nil)))
      (pss_cons (ps_if (pt_not (pt_chain op_leY op_ltY pe_int (pv 1) (pe_cf cC hr L2.pass0 (pa_cons (pv 2) pa_nil)))) (pss_one ps_never) pss_nil)
      (pss_one (ps_ret (pe_makeV (i := 0) M cI hr L2.pass0 rfl (Or.inl rfl) (pa_cons (pe_cf cS hr1 L2.pass0 (pa_cons (pv 1) (pa_cons (pv 2) pa_nil))) (pa_cons (pv 2) pa_nil)))))), ?_⟩
    refine ⟨_, rfl, a, bs, rfl, hS, ok, fun H1 S1 => ?_⟩
    refine ⟨_, rfl, 0, v, rfl, rfl, h0, true, rfl, ?_⟩
    refine iteT ?_
    refine ⟨_, rfl, a, bs, rfl, hS.same S1, ok, fun H2 S2 => ⟨v, _, rfl, rfl, h1, true, rfl, ?_⟩⟩
    refine iteF ?_
    have S12 := S1.trans S2
    refine ⟨rfl, _, rfl, _, rfl, v, a, bs, rfl, hS.same S12, ok, fun H3 d S3 hd hD => ⟨_, rfl, ?_⟩⟩
    intro x dx hx hdx ne
    have S03 := S12.trans S3
    refine ⟨x, dx, d, a, v, bs, rfl, upd_same, ?_, ?_, ok, h0, h1, fun H' Kp hN => ⟨rfl, ?_⟩⟩
    · rw [upd_ne (ne_of_none hD hx), upd_ne (ne_of_none hD hdx)]
      exact hD
    · have s2 : Same H (upd (upd H3 dx (.own x)) x (.ins C dx [])) := same_put (same_put S03 (S03.free hdx)) (S03.free hx)
      exact hS.same s2
    · exact k _ x (S03.trans (keep_new hx hdx Kp)) (S03.free hx) hN
theorem scMd : FnScope ["self", "value"] ["self", "value"] (defScope sMade) := ⟨rfl, rfl, rfl, by decide +kernel, rfl, by decide +kernel, by decide +kernel⟩
theorem ok_made {f fI : Addr} {fd : FuncData} (F : Fun K "made" "Numeral.made" sMade f fd) (T : NTy K mg C) (M : Mk K C fI) (cI : FnR P w K mg base CX0 4 fI (spInit C)) (cC : CallF P w K mg base CX0 5 "count_of" spCount) (cS : CallF P w K mg base CX0 1 "spread" spSpread)
    (O : OvT P w K mg base CO) : FnOk P w K mg base (L2.CX P w) 6 f fd ["self", "value"] (spMade C CO) := by
  refine F.okX scMd (fun vs H Q E h => ?_) (fun cdv A outer s H vs Q E hr h => ?_)
  · obtain ⟨p, bs, v, u, rfl, _⟩ := h
    rfl
  · obtain ⟨p, bs, v, u, rfl, hp, k1, k2⟩ := h
    have hr2 : Room 2 _ := hr.mono (by decide)
    have hr1 : Room 1 _ := hr.mono (by decide)
    obtain ⟨dx, dt, bt, i1, i2, i3, ok, v0, v1⟩ := id hp
    refine ⟨_, pss_cons (ps_if (pt_not (pt_chain op_le op_lt pe_int (pv 1) (pe_cf cC hr L2.pass0 (pa_cons (pe_fld (pv 0) rfl) pa_nil)))) (pss_one (ps_raise rfl (takes_of rfl rfl rfl rfl) (pmk_ov O hr2 (pa_cons (pv 1) pa_nil)))) pss_nil)
      (pss_one (ps_ret (pe_makeR M cI hr rfl T.mgC L2.pass0 (pa_cons (pe_cf cS hr1 L2.pass0 (pa_cons (pv 1) (pa_cons (pe_fld (pv 0) rfl) pa_nil))) (pa_cons (pe_fld (pv 0) rfl) pa_nil))))), ?_⟩
    refine ⟨_, rfl, 0, u, rfl, rfl, decide (0 ≤ u), rfl, ?_⟩
    have raise : ∀ H1 : Hp, Same H H1 → ¬ (0 ≤ u ∧ u < prd bs) → tMkOv CO (tCons (tVar 1) tNil) [some (V.ref p), some (V.int u)] H1 E := fun H1 S1 hn => ⟨_, rfl, u, rfl, fun H' d S' hd hD => k2 hn H' d (S1.trans S') (S1.free hd) hD⟩
    by_cases c0 : 0 ≤ u
    · rw [decide_eq_true c0]
      refine iteT ?_
      refine ⟨_, rfl, p, C, dx, _, _, rfl, i1, T.cl, T.nB, nf_bases _ _ _, bt, bs, rfl, .inr i3, ok, fun H1 S1 => ?_⟩
      refine ⟨u, _, rfl, rfl, decide (u < prd bs), rfl, ?_⟩
      by_cases c1 : u < prd bs
      · rw [decide_eq_true c1]
        refine iteF ?_
        refine ⟨_, rfl, _, rfl, p, C, dx, _, _, rfl, S1 _ _ i1, T.cl, T.nB, nf_bases _ _ _, u, bt, bs, rfl, .inr (S1 _ _ i3), ok, fun H3 d S3 hd hD => ?_⟩
        have S03 := S1.trans S3
        refine ⟨_, rfl, p, C, dx, _, _, rfl, S03 _ _ i1, T.cl, T.nB, nf_bases _ _ _, ?_⟩
        intro x dx' hx hdx ne
        refine ⟨x, dx', d, bt, u, bs, rfl, upd_same, ?_, ?_, ok, c0, c1, fun H' Kp hN => ⟨rfl, ?_⟩⟩
        · rw [upd_ne (ne_of_none hD hx), upd_ne (ne_of_none hD hdx)]
          exact hD
        · have s2 : Same H (upd (upd H3 dx' (.own x)) x (.ins C dx' [])) := same_put (same_put S03 (S03.free hdx)) (S03.free hx)
          exact .inr (s2 _ _ i3)
        · exact k1 ⟨c0, c1⟩ _ x (S03.trans (keep_new hx hdx Kp)) (S03.free hx) hN
      · rw [decide_eq_false c1]
        exact iteT (raise H1 S1 fun z => c1 z.2)
    · rw [decide_eq_false c0]
      refine iteF ?_
      refine ⟨false, rfl, ?_⟩
      exact iteT (raise H (Same.refl H) fun z => c0 z.1)
/-! ### need_like, amount, changed -/
theorem scLi : FnScope ["self", "other"] ["self", "other"] (defScope sLike) := ⟨rfl, rfl, rfl, by decide +kernel, rfl, by decide +kernel, by decide +kernel⟩
/-- the class Unlike: no own __init__ -/
structure UnT (K : PySem.W.Frag) (mg : Str → Option Value) (CU : Addr) (bm : List Value) : Prop where
  ex : PySem.W.excIn K CU bm "ValueError.__new__" = true
  mgU : mg "Unlike" = some (.ref CU)
  kp : PySem.W.keepIn K (.ref CU) = true
  sub : PySem.W.subIn K (.ref CU) (.type "BaseException") = some true
  ty : PySem.W.typeIn K (.ref CU) = some (.type "type")
theorem ok_like {f : Addr} {fd : FuncData} (F : Fun K "need_like" "Numeral.need_like" sLike f fd) (T : NTy K mg C) {bm : List Value} {initId : String} (EB : ExcBaseFacts "ValueError" "ValueError.__new__" initId bm) (U : UnT K mg CU bm) :
    FnOk P w K mg base (L2.CX P w) 2 f fd ["self", "other"] (spLike C CU) := by
  refine F.okX scLi (fun vs H Q E h => ?_) (fun cdv A outer s H vs Q E hr h => ?_)
  · obtain ⟨p, q, bs, cs, v, u, rfl, _⟩ := h
    rfl
  · obtain ⟨p, q, bs, cs, v, u, rfl, ⟨dx, dt, bt, i1, i2, i3, _⟩, ⟨dy, et, ct, j1, j2, j3, _⟩, k1, k2⟩ := h
    have hu : (A.deeper (envOfC "Numeral.need_like" (defScope sLike) s.heap.objs.size f cdv)).units + 64 < cLine := by have := hr.un; omega
    refine ⟨_, pss_one (ps_if (pt_cmpR (op_neTI hu) (pe_fld (pv 1) rfl) (pe_fld (pv 0) rfl) (nomark _)) (pss_one (ps_raise rfl (takes_of rfl rfl rfl rfl) (pmk_own EB U.ex U.mgU U.kp (raises_own U.sub U.ty) rfl))) pss_nil), ?_⟩
    refine ⟨_, rfl, q, C, dy, _, _, rfl, j1, T.cl, T.nB, nf_bases _ _ _, _, rfl, p, C, dx, _, _, rfl, i1, T.cl, T.nB, nf_bases _ _ _, ct, bt, cs, bs, rfl, rfl, j3, i3, _, rfl, ?_⟩
    by_cases e : bs = cs
    · subst e
      have z : (true != decide (bs = bs)) = false := by simp
      rw [z]
      exact iteF (k1 rfl)
    · have z : (true != decide (cs = bs)) = true := by simp [Ne.symm e]
      rw [z]
      exact iteT (k2 e)
theorem scAm : FnScope ["self", "other"] ["self", "other"] (defScope sAmount) := ⟨rfl, rfl, rfl, by decide +kernel, rfl, by decide +kernel, by decide +kernel⟩
theorem ok_amount {f : Addr} {fd : FuncData} (F : Fun K "amount" "Numeral.amount" sAmount f fd) (B : Bi mg) (T : NTy K mg C) : FnOk P w K mg base CX0 1 f fd ["self", "other"] spAmount := by
  refine F.ok scAm (fun vs H Q E h => ?_) (fun cdv A outer s H vs Q E hr h => ?_)
  · obtain ⟨p, i, rfl, _⟩ := h
    rfl
  · obtain ⟨p, i, rfl, k⟩ := h
    refine ⟨_, pss_cons (ps_if (pt_val (pe_callB call_isi (by rfl) B.isinstance bt_isinstance (pa_cons (pv 1) (pa_cons (pe_glob (v := .ref C) rfl T.mgC rfl) pa_nil)))) (pss_cons ps_never (pss_one ps_never)) pss_nil) (pss_one (ps_ret (pv 1))), ?_⟩
    exact ⟨_, rfl, .int i, .ref C, .type "int", .ref C, false, rfl, .own C, .base (.int i), T.kin, false, rfl, iteF ⟨_, rfl, k⟩⟩
theorem scCh : FnScope ["self", "other", "place", "digit"] ["self", "other"] (defScope sChanged) := ⟨rfl, rfl, rfl, by decide +kernel, rfl, by decide +kernel, by decide +kernel⟩
theorem chg_step {xs ys : List Int} {i : Nat} {x : Int} (h : xs[i]? = some x) {y : Int} (hy : ys[i]? = some y) :
    (List.range (i + 1)).filter (fun j => !decide (xs.getD j 0 = ys.getD j 0)) = (List.range i).filter (fun j => !decide (xs.getD j 0 = ys.getD j 0)) ++ if x = y then [] else [i] := by
  rw [List.range_succ, List.filter_append]
  congr 1
  have e1 : xs.getD i 0 = x := by rw [List.getD_eq_getElem?_getD, h]; rfl
  have e2 : ys.getD i 0 = y := by rw [List.getD_eq_getElem?_getD, hy]; rfl
  rw [List.filter_cons, e1, e2]
  by_cases e : x = y
  · rw [if_pos e, decide_eq_true e]
    rfl
  · rw [if_neg e, decide_eq_false e]
    rfl
theorem ok_changed {f : Addr} {fd : FuncData} (F : Fun K "changed" "Numeral.changed" sChanged f fd) (B : Bi mg) (T : NTy K mg C) (mL : MethF P w K mg base C (L2.CX P w) 2 "need_like" (spLike C CU)) :
    FnOk P w K mg base CX0 3 f fd ["self", "other"] (spChanged C) := by
  refine F.ok scCh (fun vs H Q E h => ?_) (fun cdv A outer s H vs Q E hr h => ?_)
  · obtain ⟨p, q, bs, v, u, rfl, _⟩ := h
    rfl
  · obtain ⟨p, q, bs, v, u, rfl, hp, hq, k⟩ := h
    obtain ⟨fL, FL, ML⟩ := mL
    obtain ⟨dx, dt, bt, i1, i2, i3, ok, v0, v1⟩ := id hp
    obtain ⟨dy, et, ct, j1, j2, j3, _, u0, u1⟩ := id hq
    refine ⟨_, pss_cons (ps_expr (pe_methR (pv 0) T.cl ML FL hr passL (by exact (pa_cons (pv 1) pa_nil))))
      (pss_one (ps_ret (pe_lc (own := [("place", 2), ("digit", 3)]) (g := gTup K 2 (gCons (gName 2) (gCons (gName 3) gNil))) (tt := tTest (tOp rNeI (tVar 3) (tOp rIxI (tFld K (tVar 1) "digits") (tVar 2)))) rfl scCh.nd (pi_enumI B.enumerate (pa_cons (pe_fld (pv 0) rfl) pa_nil))
        (blkOk_by (N := ["self", "other", "place", "digit"]) (sc := defScope sChanged) (by decide +kernel)) (fun _ _ _ _ _ => pg_tup rfl (pgs_cons (pg_name (i := 2) scCh.nd rfl (Or.inl rfl)) (pgs_cons (pg_name (i := 3) scCh.nd rfl (Or.inl rfl)) pgs_nil)))
        (fun _ _ _ _ _ => pts_one (pt_cmpR op_neI (pv 3) (by exact (pe_ix ix_I (pe_fld (pv 1) rfl) (pv 2) (fun _ _ => rfl))) (nomark _))) (fun _ _ _ _ _ => pv 2)))), ?_⟩
    refine ⟨_, rfl, p, dx, _, rfl, i1, nf_no _ _ _ (by decide +kernel) (by decide +kernel) (by decide +kernel), _, rfl, p, q, bs, bs, v, u, rfl, hp, hq, fun _ => ?_, fun z => (z rfl).elim⟩
    refine ⟨_, rfl, p, C, dx, _, _, rfl, i1, T.cl, T.nD, nf_digits _ _ _, dt, _, rfl, .inr i2, fun J wk D hD => ?_⟩
    rw [digs_len] at wk
    refine lc_it wk (fun i H' => Same H H' ∧ H' D = some (.lst ((((List.range i).filter fun j => !decide ((digs v bs).getD j 0 = (digs u bs).getD j 0)).map fun (j : Nat) => (j : Int)).map V.int))) ⟨same_lay hD, upd_same⟩
      (fun i H' _ R => same_eq R.1 i2) ?_ ?_
    · rintro i x H' _ hi ⟨S, hL⟩ ⟨TT, x1, x2, rfl, hT, rfl, e1, e2⟩
      obtain ⟨dg, rfl, hdg⟩ := map_get e2
      cases Option.some.inj e1
      obtain ⟨eg, heg⟩ : ∃ eg, (digs u bs)[i]? = some eg := by
        have hl : i < (digs u bs).length := by rw [digs_len]; exact hi
        exact ⟨_, List.getElem?_eq_getElem hl⟩
      have S2 := same_new (o := .tup [.int (i : Nat), .int dg]) S hT
      have nDT : D ≠ TT := fun z => by rw [← z, hL] at hT; cases hT
      have hL2 : upd H' TT (.tup [.int (i : Nat), .int dg]) D = _ := (upd_ne nDT).trans hL
      refine ⟨TT, _, rfl, SqT.of upd_same, rfl, _, _, rfl, _, _, rfl, rfl, rfl, ?_⟩
      refine ⟨_, rfl, _, rfl, q, C, dy, _, _, rfl, S2 _ _ j1, T.cl, T.nD, nf_digits _ _ _, _, rfl, et, _, i, eg, rfl, rfl, .inr (S2 _ _ j2), heg, _, _, rfl, rfl, _, rfl, ?_⟩
      have st := chg_step hdg heg
      have hlen : ((List.range i).filter fun j => !decide ((digs v bs).getD j 0 = (digs u bs).getD j 0)).length ≤ i := by
        have := List.length_filter_le (fun j => !decide ((digs v bs).getD j 0 = (digs u bs).getD j 0)) (List.range i)
        simpa using this
      have := ok.few
      by_cases c : dg = eg
      · rw [decide_eq_true c]
        refine iteF ⟨S2, ?_⟩
        rw [st, if_pos c, List.append_nil]
        exact hL2
      · rw [decide_eq_false c]
        refine iteT ?_
        refine ⟨_, rfl, _, hL2, by rw [List.length_map, List.length_map]; exact small1000 (by omega), same_put S2 hD, ?_⟩
        rw [st, if_neg c, upd_same, List.map_append, List.map_append]
        rfl
    · rintro H' ⟨S, hL⟩
      refine k _ D S hD ?_
      rw [hL]
      unfold chI chgs
      rw [digs_len]
end
end K7

/-! Numeral: ==, +, len, [i]; carry. -/
namespace K7
open PySem PySem.Spec PyProof.Rows L2 StX
section
variable {P : Program} {w : World} {K : PySem.W.Frag} {mg : Str → Option Value} {base : Heap} {C CO CU : Addr}
theorem scEq : FnScope ["self", "other"] ["self", "other"] (defScope sEq) := ⟨rfl, rfl, rfl, by decide +kernel, rfl, by decide +kernel, by decide +kernel⟩
theorem ok_eq {f : Addr} {fd : FuncData} (F : Fun K "__eq__" "Numeral.__eq__" sEq f fd) (B : Bi mg) (T : NTy K mg C) : FnOk P w K mg base CX0 1 f fd ["self", "other"] (spEq C) := by
  refine F.ok scEq (fun vs H Q E h => ?_) (fun cdv A outer s H vs Q E hr h => ?_)
  · obtain ⟨p, q, bs, cs, v, u, rfl, _⟩ := h
    rfl
  · obtain ⟨p, q, bs, cs, v, u, rfl, ⟨dx, dt, bt, i1, i2, i3, _⟩, ⟨dy, et, ct, j1, j2, j3, _⟩, k⟩ := h
    have hu : (A.deeper (envOfC "Numeral.__eq__" (defScope sEq) s.heap.objs.size f cdv)).units + 64 < cLine := by have := hr.un; omega
    refine ⟨_, pss_cons (ps_if (pt_not (pt_val (pe_callB call_isi (by rfl) B.isinstance bt_isinstance (pa_cons (pv 1) (pa_cons (pe_glob (v := .ref C) rfl T.mgC rfl) pa_nil))))) (pss_one (ps_ret pe_bl)) pss_nil)
      (pss_one (ps_ret (pe_cmpR (op_eqP hu) (pe_tup (pa_cons (pe_fld (pv 0) rfl) (pa_cons (pe_fld (pv 0) rfl) pa_nil))) (pe_tup (pa_cons (pe_fld (pv 1) rfl) (pa_cons (pe_fld (pv 1) rfl) pa_nil))) (nomark _)))), ?_⟩
    refine ⟨_, rfl, .ref q, .ref C, .ref C, .ref C, true, rfl, .own C, T.ty j1, kit_self, true, rfl, ?_⟩
    refine iteF ?_
    refine ⟨_, rfl, p, C, dx, _, _, rfl, i1, T.cl, T.nB, nf_bases _ _ _, _, rfl, p, C, dx, _, _, rfl, i1, T.cl, T.nV, nf_value _ _ _, (by show 2 ≤ sizeLine; decide), fun t1 ht1 => ?_⟩
    have S1 := same_lay (o := .tup [.ref bt, .int v]) ht1
    refine ⟨_, rfl, q, C, dy, _, _, rfl, S1 _ _ j1, T.cl, T.nB, nf_bases _ _ _, _, rfl, q, C, dy, _, _, rfl, S1 _ _ j1, T.cl, T.nV, nf_value _ _ _, (by show 2 ≤ sizeLine; decide), fun t2 ht2 => ?_⟩
    have S2 := same_new (o := .tup [.ref ct, .int u]) S1 ht2
    have n12 : t1 ≠ t2 := fun z => by rw [← z, upd_same] at ht2; cases ht2
    exact ⟨t1, t2, bt, ct, bs, cs, v, u, rfl, rfl, by rw [upd_ne n12, upd_same], upd_same, S2 _ _ i3, S2 _ _ j3, k _ S2⟩
theorem scAd : FnScope ["self", "other"] ["self", "other"] (defScope sAdd) := ⟨rfl, rfl, rfl, by decide +kernel, rfl, by decide +kernel, by decide +kernel⟩
theorem ok_add {f : Addr} {fd : FuncData} (F : Fun K "__add__" "Numeral.__add__" sAdd f fd) (B : Bi mg) (T : NTy K mg C) (cW : CallF P w K mg base CX0 1 "is_whole" spIsWhole) (mA : MethF P w K mg base C CX0 1 "amount" spAmount) (mM : MethF P w K mg base C (L2.CX P w) 6 "made" (spMade C CO)) :
    FnOk P w K mg base (L2.CX P w) 7 f fd ["self", "other"] (spAdd C CO) := by
  refine F.okX scAd (fun vs H Q E h => ?_) (fun cdv A outer s H vs Q E hr h => ?_)
  · obtain ⟨p, bs, v, i, rfl, _⟩ := h
    rfl
  · obtain ⟨p, bs, v, i, rfl, hp, k1, k2⟩ := h
    obtain ⟨fA, FA, MA⟩ := mA
    obtain ⟨fM, FM, MM⟩ := mM
    obtain ⟨dx, dt, bt, i1, i2, i3, ok, v0, v1⟩ := id hp
    have hr1 : Room 1 _ := hr.mono (by decide)
    refine ⟨_, pss_cons (ps_if (PW.pt (pw_and (pt_not (pt_val (pe_callB call_isi (by rfl) B.isinstance bt_isinstance (pa_cons (pv 1) (pa_cons (pe_glob (v := .ref C) rfl T.mgC rfl) pa_nil)))))
        (pw_and1 (pt_not (pt_val (pe_cf cW hr1 L2.pass0 (pa_cons (pv 1) pa_nil))))))) (pss_one ps_never) pss_nil)
      (pss_one (ps_ret (pe_methR (pv 0) T.cl MM FM hr (passX (takes_of rfl rfl rfl rfl)) (by exact (pa_cons (pe_op op_add (pe_fld (pv 0) rfl) (pe_methR (pv 0) T.cl MA FA hr1 L2.pass0 (by exact (pa_cons (pv 1) pa_nil)))) pa_nil))))), ?_⟩
    refine ⟨_, rfl, .int i, .ref C, .type "int", .ref C, false, rfl, .own C, .base (.int i), T.kin, false, rfl, ?_⟩
    refine iteT ?_
    refine ⟨_, rfl, i, rfl, true, rfl, ?_⟩
    refine iteF ?_
    refine ⟨_, rfl, p, dx, _, rfl, i1, nf_no _ _ _ (by decide +kernel) (by decide +kernel) (by decide +kernel), _, rfl, p, C, dx, _, _, rfl, i1, T.cl, T.nV, nf_value _ _ _, ?_⟩
    refine ⟨_, rfl, p, dx, _, rfl, i1, nf_no _ _ _ (by decide +kernel) (by decide +kernel) (by decide +kernel), _, rfl, p, i, rfl, ?_⟩
    exact ⟨_, _, rfl, rfl, p, bs, v, v + i, rfl, hp, k1, k2⟩
theorem scLn : FnScope ["self"] ["self"] (defScope sLen) := ⟨rfl, rfl, rfl, by decide +kernel, rfl, by decide +kernel, by decide +kernel⟩
theorem ok_len {f : Addr} {fd : FuncData} (F : Fun K "__len__" "Numeral.__len__" sLen f fd) (B : Bi mg) (T : NTy K mg C) : FnOk P w K mg base CX0 1 f fd ["self"] (spLen C) := by
  refine F.ok scLn (fun vs H Q E h => ?_) (fun cdv A outer s H vs Q E hr h => ?_)
  · obtain ⟨p, bs, v, rfl, _⟩ := h
    rfl
  · obtain ⟨p, bs, v, rfl, ⟨dx, dt, bt, i1, i2, i3, _⟩, k⟩ := h
    refine ⟨_, pss_one (ps_ret (pe_callB call_lenI (by rfl) B.len bt_len (pa_cons (pe_fld (pv 0) rfl) pa_nil))), ?_⟩
    refine ⟨_, rfl, p, C, dx, _, _, rfl, i1, T.cl, T.nD, nf_digits _ _ _, dt, _, rfl, .inr i2, ?_⟩
    rw [digs_len]
    exact k
theorem scIt : FnScope ["self", "place"] ["self", "place"] (defScope sItem) := ⟨rfl, rfl, rfl, by decide +kernel, rfl, by decide +kernel, by decide +kernel⟩
theorem ok_item {f : Addr} {fd : FuncData} (F : Fun K "__getitem__" "Numeral.__getitem__" sItem f fd) (B : Bi mg) (T : NTy K mg C) (cW : CallF P w K mg base CX0 1 "is_whole" spIsWhole) : FnOk P w K mg base CX0 2 f fd ["self", "place"] (spItem C) := by
  refine F.ok scIt (fun vs H Q E h => ?_) (fun cdv A outer s H vs Q E hr h => ?_)
  · obtain ⟨p, bs, v, i, d, rfl, _⟩ := h
    rfl
  · obtain ⟨p, bs, v, i, d, rfl, ⟨dx, dt, bt, i1, i2, i3, _⟩, hd, k⟩ := h
    have hi : i < (digs v bs).length := len_of_get hd
    refine ⟨_, pss_cons (ps_if (PW.pt (pw_or (pt_not (pt_val (pe_cf cW hr L2.pass0 (pa_cons (pv 1) pa_nil))))
        (pw_or1 (pt_not (pt_chain op_leY op_ltY pe_int (pv 1) (pe_callB call_lenI (by rfl) B.len bt_len (pa_cons (pe_fld (pv 0) rfl) pa_nil))))))) (pss_one ps_never) pss_nil)
      (pss_one (ps_ret (pe_ix ix_I (pe_fld (pv 0) rfl) (pv 1) (fun _ _ => rfl)))), ?_⟩
    refine ⟨_, rfl, i, rfl, true, rfl, ?_⟩
    refine iteF ?_
    refine ⟨_, rfl, _, _, rfl, rfl, by omega, true, rfl, ?_⟩
    refine iteT ?_
    refine ⟨_, rfl, p, C, dx, _, _, rfl, i1, T.cl, T.nD, nf_digits _ _ _, dt, _, rfl, .inr i2, _, _, rfl, rfl, by omega, true, rfl, ?_⟩
    refine iteF ?_
    exact ⟨_, rfl, p, C, dx, _, _, rfl, i1, T.cl, T.nD, nf_digits _ _ _, _, rfl, dt, _, i, d, rfl, rfl, .inr i2, hd, k⟩
/-- what + wants of the written part -/
structure AddT (P : Program) (w : World) (K : PySem.W.Frag) (mg : Str → Option Value) (base : Heap) (C CO : Addr) : Prop where
  fn : ∃ g, PySem.W.findIn K (.ref C) "__add__" = some (some (.ref g)) ∧ PySem.W.isFn K (.ref g) = true ∧ FnR P w K mg base (L2.CX P w) 7 g (spAdd C CO)
  first : PySem.W.selfFirst K C = true
  radd : ∃ rc, PySem.W.findIn K (.ref C) "__radd__" = some rc ∧ (rc = none ∨ ∃ g : Addr, rc = some (.ref g))
  iadd : ∃ fo, PySem.W.findIn K (.type "int") "__add__" = some fo
  iradd : ∃ ro, PySem.W.findIn K (.type "int") "__radd__" = some ro
  sub : PySem.W.subIn K (.type "int") (.ref C) = some false
theorem op_numAdd {X : Cx} {E : XK} (A : AddT X.prog X.w X.K X.mg X.base C CO) (hr : Room 7 X.A) (hx : Passes (L2.CX X.prog X.w) X E) : OpR X (binaryOp .Add) (rAddI C (spAdd C CO) E) := by
  obtain ⟨g, a1, a2, a3⟩ := A.fn
  obtain ⟨rc, r1, r2⟩ := A.radd
  obtain ⟨fo, f1⟩ := A.iadd
  obtain ⟨ro, f2⟩ := A.iradd
  exact op_addI a1 a2 A.first r1 r2 f1 f2 A.sub a3 hr hx
theorem scCa : FnScope ["numeral"] ["numeral"] (defScope sCarry) := ⟨rfl, rfl, rfl, by decide +kernel, rfl, by decide +kernel, by decide +kernel⟩
theorem ok_carry {f : Addr} {fd : FuncData} (F : Fun K "carry" "carry" sCarry f fd) (T : NTy K mg C) (mC : MethF P w K mg base C CX0 3 "changed" (spChanged C)) (AT : AddT P w K mg base C CO) : FnOk P w K mg base (L2.CX P w) 8 f fd ["numeral"] (spCarry C CO) := by
  refine F.okX scCa (fun vs H Q E h => ?_) (fun cdv A outer s H vs Q E hr h => ?_)
  · obtain ⟨p, bs, v, rfl, _⟩ := h
    rfl
  · obtain ⟨p, bs, v, rfl, hp, k1, k2⟩ := h
    obtain ⟨fC, FC, MC⟩ := mC
    obtain ⟨dx, dt, bt, i1, i2, i3, ok, v0, v1⟩ := id hp
    have hr3 : Room 3 _ := hr.mono (by decide)
    refine ⟨_, pss_one (ps_ret (pe_revL (pe_methR (pv 0) T.cl MC FC hr3 L2.pass0 (by exact (pa_cons (pe_op (op_numAdd AT hr (passX (takes_of rfl rfl rfl rfl))) (pv 0) pe_int) pa_nil))))), ?_⟩
    refine ⟨_, rfl, p, dx, _, rfl, i1, nf_no _ _ _ (by decide +kernel) (by decide +kernel) (by decide +kernel), _, rfl, p, dx, _, 1, rfl, rfl, i1, p, bs, v, 1, rfl, hp, fun c H1 q S1 hq hN => ?_, fun c => k2 fun z => c ⟨by omega, z⟩⟩
    refine ⟨p, q, bs, v, v + 1, rfl, hp.same S1, hN, fun H2 r S2 hr2 hR => ?_⟩
    refine ⟨r, _, rfl, SqL.of hR, fun t ht => ?_⟩
    refine k1 c.2 _ t (same_new (S1.trans S2) ht) (S1.free (S2.free ht)) ?_
    rw [upd_same, List.map_reverse]
end
end K7

/-! numerals_from. -/
namespace K7
open PySem PySem.Spec PyProof.Rows L2 StX
/-- out: numerals of v, v + 1, .. -/
def Rows (C : Addr) (H0 H : Hp) (bs : List Int) (v : Int) (out : List V) : Prop := ∀ i, i < out.length → ∃ r, out[i]? = some (.ref r) ∧ H0 r = none ∧ NumAt C H r bs (v + (i : Nat))
theorem Rows.same {C : Addr} {H0 H H' : Hp} {bs : List Int} {v : Int} {out : List V} (h : Rows C H0 H bs v out) (s : Same H H') : Rows C H0 H' bs v out := fun i hi =>
  let ⟨r, e, n, q⟩ := h i hi
  ⟨r, e, n, q.same s⟩
theorem Rows.nil {C : Addr} {H0 H : Hp} {bs : List Int} {v : Int} : Rows C H0 H bs v [] := fun i hi => absurd hi (Nat.not_lt_zero i)
theorem Rows.snoc {C : Addr} {H0 H : Hp} {bs : List Int} {v : Int} {out : List V} {r : Addr} (h : Rows C H0 H bs v out) (n : H0 r = none) (hr : NumAt C H r bs (v + (out.length : Nat))) : Rows C H0 H bs v (out ++ [.ref r]) := fun i hi => by
  rw [List.length_append, List.length_singleton] at hi
  by_cases c : i < out.length
  · obtain ⟨r', e, n', q⟩ := h i c
    exact ⟨r', by rw [List.getElem?_append_left c]; exact e, n', q⟩
  · have e : i = out.length := by omega
    subst e
    exact ⟨r, by simp, n, hr⟩
def spFrom (C CU : Addr) : SpG := fun vs H Q E => ∃ p q bs cs v u, vs = [.ref p, .ref q] ∧ NumAt C H p bs v ∧ NumAt C H q cs u ∧ u - v < 1000 ∧
  (bs = cs → ∀ H' out, Same H H' → out.length = (u + 1 - v).toNat → Rows C H H' bs v out → Q out H') ∧ (bs ≠ cs → E (.ref CU) none H)
section
variable {P : Program} {w : World} {K : PySem.W.Frag} {mg : Str → Option Value} {base : Heap} {C CO CU : Addr}
theorem scFr : GScope ["low", "high", "value"] ["low", "high"] (defScope sFrom) := ⟨rfl, rfl, rfl, by decide +kernel, rfl, by decide +kernel, by decide +kernel⟩
theorem ok_from {f : Addr} {fd : FuncData} (F : Fun K "numerals_from" "numerals_from" sFrom f fd) (T : NTy K mg C) (mL : MethF P w K mg base C (L2.CX P w) 2 "need_like" (spLike C CU)) (mM : MethF P w K mg base C (L2.CX P w) 6 "made" (spMade C CO)) :
    GFn P w K mg base 7 f fd ["low", "high"] (spFrom C CU) := by
  obtain ⟨oc, od, kV, doc, pm, an, cdv, ct, osl, rfl, lk, hcd⟩ := F.ex
  refine gfn_of lk hcd scFr (fun vs H Q E h => ?_) (fun A outer s H vs Q E pn hr h => ?_)
  · obtain ⟨p, q, bs, cs, v, u, rfl, _⟩ := h
    rfl
  · obtain ⟨p, q, bs, cs, v, u, rfl, hp, hq, hlt, k1, k2⟩ := h
    obtain ⟨fL, FL, ML⟩ := mL
    obtain ⟨fM, FM, MM⟩ := mM
    have hr2 : Room 2 _ := hr.mono (by decide)
    obtain ⟨dx, dt, bt, i1, i2, i3, ok, v0, v1⟩ := id hp
    obtain ⟨dy, et, ct', j1, j2, j3, _, u0, u1⟩ := id hq
    refine ⟨_, gss_cons (gs_ps (ps_expr (pe_methR (pv 0) T.cl ML FL hr2 (passX takes_gcx) (by exact (pa_cons (pv 1) pa_nil)))))
      (gss_cons (gs_ps (ps_set (i := 2) scFr.nd rfl (Or.inl rfl) (pe_fld (pv 0) rfl)))
      (gss_cons (gs_while owns_gcx (pt_cmpR op_le (pv 2) (pe_fld (pv 1) rfl) (nomark _))
        (gss_cons (gs_yield (pe_methR (pv 0) T.cl MM FM hr (passX takes_gcx) (by exact (pa_cons (pv 2) pa_nil)))) (gss_cons (gs_ps (ps_aug (i := 2) scFr.nd rfl (Or.inl rfl) pe_int iop_add)) gss_nil))) gss_nil)), ?_⟩
    refine ⟨_, rfl, p, dx, _, rfl, i1, nf_no _ _ _ (by decide +kernel) (by decide +kernel) (by decide +kernel), _, rfl, p, q, bs, cs, v, u, rfl, hp, hq, fun e => ?_, fun z => k2 z⟩
    subst e
    refine ⟨_, rfl, p, C, dx, _, _, rfl, i1, T.cl, T.nV, nf_value _ _ _, ?_⟩
    refine ⟨fun m ys σ H' => m = (u + 1 - (v + (ys.length : Nat))).toNat ∧ v + (ys.length : Nat) ≤ max v (u + 1) ∧ σ = [some (.ref p), some (.ref q), some (.int (v + (ys.length : Nat)))] ∧ Same H H' ∧ Rows C H H' bs v ys, ⟨_, rfl, ?_, ?_, Same.refl H, Rows.nil⟩, ?_⟩
    · show v + ((0 : Nat) : Int) ≤ _
      omega
    · show _ = [_, _, some (V.int (v + ((0 : Nat) : Int)))]
      rw [Int.natCast_zero, Int.add_zero]
      rfl
    · rintro m ys σ H' ⟨rfl, hb, rfl, S, R⟩
      refine ⟨_, rfl, _, rfl, q, C, dy, _, _, rfl, S _ _ j1, T.cl, T.nV, nf_value _ _ _, _, _, rfl, rfl, _, rfl, ?_⟩
      by_cases c : v + (ys.length : Nat) ≤ u
      · rw [decide_eq_true c]
        refine iteT ⟨fun ys' σ' H2 => ys'.length = ys.length + 1 ∧ σ' = [some (.ref p), some (.ref q), some (.int (v + (ys'.length : Nat)))] ∧ Same H H2 ∧ Rows C H H2 bs v ys', ?_, ?_⟩
        · rintro ys' σ' H2 ⟨e1, e2, S2, R2⟩
          refine ⟨(u + 1 - (v + (ys'.length : Nat))).toNat, by rw [e1]; omega, rfl, by rw [e1]; omega, e2, S2, R2⟩
        · refine ⟨Nat.lt_of_le_of_lt (show ys.length ≤ 1000 by omega) (by decide), ?_⟩
          refine ⟨_, rfl, p, dx, _, rfl, S _ _ i1, nf_no _ _ _ (by decide +kernel) (by decide +kernel) (by decide +kernel), _, rfl, p, bs, v, v + (ys.length : Nat), rfl, hp.same S, fun _ => ?_, fun z => (z ⟨by omega, by omega⟩).elim⟩
          intro H2 r S2 hr2 hN
          refine ⟨_, rfl, _, _, rfl, rfl, ?_⟩
          refine ⟨by rw [List.length_append]; rfl, ?_, S.trans S2, (R.same S2).snoc (S.free hr2) hN⟩
          rw [List.length_append, List.length_singleton]
          show [_, _, some (V.int (v + (ys.length : Nat) + 1))] = _
          rw [Int.natCast_add, Int.add_assoc]
          rfl
      · rw [decide_eq_false c]
        refine iteF ?_
        refine k1 rfl H' ys S ?_ R
        omega
end
end K7

/-! The law's pen: _law_pen, _law_take, _law_pick, _law_bases, _law_low. -/
namespace K7
open PySem PySem.Spec PyProof.Rows L2 StX
/-- at p the pen, at most n places read -/
def PenAt (H : Hp) (p q : Addr) (n : Nat) : Prop := ∃ (ns : List Int) (t g : Int), H p = some (.lst [.ref q, .int t, .int g]) ∧ H q = some (.lst (ns.map V.int)) ∧ 0 ≤ t ∧ t ≤ (n : Int)
theorem PenAt.same {H H' : Hp} {p q : Addr} {n : Nat} (h : PenAt H p q n) (s : Same H H') : PenAt H' p q n :=
  let ⟨ns, t, g, h1, h2, h3⟩ := h
  ⟨ns, t, g, s _ _ h1, s _ _ h2, h3⟩
theorem PenAt.mono {H : Hp} {p q : Addr} {n m : Nat} (h : PenAt H p q n) (l : n ≤ m) : PenAt H p q m :=
  let ⟨ns, t, g, h1, h2, h3, h4⟩ := h
  ⟨ns, t, g, h1, h2, h3, by omega⟩
theorem PenAt.put {H : Hp} {p q D : Addr} {n : Nat} {o : HO} (h : PenAt H p q n) (n1 : D ≠ p) (n2 : D ≠ q) : PenAt (upd H D o) p q n :=
  let ⟨ns, t, g, h1, h2, h3⟩ := h
  ⟨ns, t, g, by rw [upd_ne n1.symm]; exact h1, by rw [upd_ne n2.symm]; exact h2, h3⟩
theorem PenAt.off {H : Hp} {p q D : Addr} {n : Nat} (h : PenAt H p q n) (e : H D = none) : D ≠ p ∧ D ≠ q :=
  let ⟨_, _, _, h1, h2, _⟩ := h
  ⟨(ne_of_none h1 e).symm, (ne_of_none h2 e).symm⟩
theorem not_ints {q : Addr} {r : List V} {ns : List Int} : (HO.lst (ns.map V.int)) ≠ .lst (.ref q :: r) := by
  intro e
  cases ns with
  | nil => cases e
  | cons n ns => cases e
theorem PenAt.ne {H : Hp} {p q a : Addr} {n : Nat} {ns : List Int} (h : PenAt H p q n) (hS : Sq H a ns) : a ≠ p := by
  obtain ⟨ms, t, g, h1, _⟩ := h
  rcases hS with hS | hS
  · exact ne_of hS h1 not_ints
  · exact ne_of hS h1 (by intro q; cases q)
theorem Keep.same_of {p : Addr} {H0 H H' : Hp} (s : Same H0 H) (h0 : H0 p = none) (k : Keep p H H') : Same H0 H' := fun b o e => k b o (ne_of_none e h0) (s b o e)
/-- a statement, then the rest from whatever is known between -/
def tCut (t u : TS) : TS := fun D σ H => ∃ I : L2.St → Hp → Prop, t { D with nx := I } σ H ∧ ∀ σ' H', I σ' H' → u D σ' H'
theorem pss_cut {X : Cx} {st : Stmt} {rest : List Stmt} {t u : TS} (h1 : PS X st t) (h2 : PSs X rest u) : PSs X (st :: rest) (tCut t u) := by
  refine ⟨fun pins s σ H D I h => ?_⟩
  obtain ⟨J, ht, hu⟩ := h
  have a := pss_cons h1 h2
  refine wpAny_execs_cons (thn (h1.run pins s σ H { D with nx := J } I ht) fun f s1 q => ?_)
  cases f with
  | next =>
    obtain ⟨σ', H', I', q⟩ := q
    exact h2.run pins s1 σ' H' D I' (hu σ' H' q)
  | ret v => exact q
  | brk => exact q
  | cont => exact q
def spPen (K : PySem.W.Frag) : Sp := fun vs H Q _ => ∃ (a : Addr) (ns : List Int), vs = [.ref a] ∧ SqL K H a (ns.map V.int) ∧ ∀ H' p q, Same H H' → H p = none → H q = none → PenAt H' p q 0 → Q (.ref p) H'
def spTake : Sp := fun vs H Q _ => ∃ p q lim n, vs = [.ref p, .int lim] ∧ PenAt H p q n ∧ n ≤ 900 ∧ 0 < lim ∧ lim < 1073741824 ∧ ∀ H' d, Keep p H H' → PenAt H' p q (n + 1) → 0 ≤ d → d < lim → Q (.int d) H'
def spPick : Sp := fun vs H Q _ => ∃ (p q l : Addr) (xs : List Int) (n : Nat), vs = [.ref p, .ref l] ∧ PenAt H p q n ∧ n ≤ 900 ∧ H l = some (.lst (xs.map V.int)) ∧ 1 ≤ xs.length ∧ xs.length ≤ 1000 ∧ ∀ H' x, Keep p H H' → PenAt H' p q (n + 1) → x ∈ xs → Q (.int x) H'
def spBases : Sp := fun vs H Q _ => ∃ p q n, vs = [.ref p] ∧ PenAt H p q n ∧ n ≤ 800 ∧ ∀ (H' : Hp) (r : Addr) (bs : List Int), Keep p H H' → PenAt H' p q (n + 9) → H r = none → H' r = some (.lst (bs.map V.int)) → OkB bs → Q (.ref r) H'
def spLow : Sp := fun vs H Q _ => ∃ p q a bs n, vs = [.ref p, .ref a] ∧ PenAt H p q n ∧ n ≤ 800 ∧ Sq H a bs ∧ OkB bs ∧ ∀ H' v, Keep p H H' → PenAt H' p q (n + 6) → 0 ≤ v → v < prd bs → Q (.int v) H'
section
variable {P : Program} {w : World} {K : PySem.W.Frag} {mg : Str → Option Value} {base : Heap}
theorem scPn : FnScope ["_law_script"] ["_law_script"] (defScope sPen) := ⟨rfl, rfl, rfl, by decide +kernel, rfl, by decide +kernel, by decide +kernel⟩
theorem cut_ints (ns : List Int) (lo hi : Option Int) : ∃ ms : List Int, cutV (ns.map V.int) lo hi = ms.map V.int := by
  unfold cutV
  exact ⟨_, by rw [← List.map_drop, ← List.map_take]⟩
theorem ok_pen {f : Addr} {fd : FuncData} (F : Fun K "_law_pen" "_law_pen" sPen f fd) (B : Bi mg) : FnOk P w K mg base CX0 1 f fd ["_law_script"] (spPen K) := by
  refine F.ok scPn (fun vs H Q E h => ?_) (fun cdv A outer s H vs Q E hr h => ?_)
  · obtain ⟨a, ns, rfl, _⟩ := h
    rfl
  · obtain ⟨a, ns, rfl, hS, k⟩ := h
    refine ⟨_, pss_one (ps_ret (pe_lst (pa_cons (pe_callTy call_list_of (by rfl) B.list bt_list (pa_cons (pe_slice sl_list (pv 0) po_none (po_some pe_int)) pa_nil)) (pa_cons pe_int (pa_cons pe_int pa_nil))))), ?_⟩
    refine ⟨_, rfl, 63, rfl, a, _, rfl, hS, fun l hl => ?_⟩
    obtain ⟨ms, em⟩ := cut_ints ns none (some 63)
    refine ⟨l, _, rfl, .inl (SqL.of upd_same), fun q hq => ⟨by show 3 ≤ sizeLine; decide, fun p hp => ?_⟩⟩
    have S1 := same_lay (o := .lst (cutV (ns.map V.int) none (some 63))) hl
    have S2 := same_new (o := .lst (cutV (ns.map V.int) none (some 63))) S1 hq
    refine k _ p q (same_new S2 hp) (S2.free hp) (S1.free hq) ⟨ms, 0, 0, upd_same, ?_, Int.le_refl _, Int.le_refl _⟩
    have nqp : q ≠ p := fun z => by rw [← z, upd_same] at hp; cases hp
    rw [upd_ne nqp, upd_same, em]
theorem scTk : FnScope ["_law_pen_here", "_law_limit", "_law_digit", "_law_at", "_law_cell", "_law_great", "_law_mixed"] ["_law_pen_here", "_law_limit"] (defScope sTake) := ⟨rfl, rfl, rfl, by decide +kernel, rfl, by decide +kernel, by decide +kernel⟩
theorem mod_ok {i j : Int} (h : 0 < j) : 0 ≤ i % j ∧ i % j < j := ⟨Int.emod_nonneg _ (by omega), Int.emod_lt_of_pos _ h⟩
theorem ok_take {f : Addr} {fd : FuncData} (F : Fun K "_law_take" "_law_take" sTake f fd) (B : Bi mg) : FnOk P w K mg base CX0 1 f fd ["_law_pen_here", "_law_limit"] spTake := by
  refine F.ok scTk (fun vs H Q E h => ?_) (fun cdv A outer s H vs Q E hr h => ?_)
  · obtain ⟨p, q, lim, n, rfl, _⟩ := h
    rfl
  · obtain ⟨p, q, lim, n, rfl, ⟨ns, t, g, hp, hq, t0, tn⟩, hn, l0, l1, k⟩ := h
    have hu : (A.deeper (envOfC "_law_take" (defScope sTake) s.heap.objs.size f cdv)).units + 64 < cLine := by have := hr.un; omega
    have nqp : q ≠ p := ne_of hq hp not_ints
    refine ⟨_, pss_cons (ps_if (pt_cmpR op_gt (pe_ix ix_V (pv 0) pe_int (fun _ _ => rfl)) pe_int (nomark _))
        (pss_cons (ps_set (i := 2) scTk.nd rfl (Or.inl rfl) (pe_op op_modP (pe_callTy call_int1 (by rfl) B.int bt_int (pa_cons (pe_ix ix_V (pv 0) pe_int (fun _ _ => rfl)) pa_nil)) (pv 1)))
        (pss_cons (ps_asg (pe_op op_divP (pe_ix ix_V (pv 0) pe_int (fun _ _ => rfl)) (pv 1)) (pg_sub (pv 0) pe_int set_list)) (pss_one (ps_ret (pv 2))))) pss_nil)
      (pss_cons (ps_set (i := 3) scTk.nd rfl (Or.inl rfl) (pe_ix ix_V (pv 0) pe_int (fun _ _ => rfl)))
      (pss_cons (ps_asg (pe_op op_add (pv 3) pe_int) (pg_sub (pv 0) pe_int set_list))
      (pss_cons (ps_set (i := 4) scTk.nd rfl (Or.inl rfl) (pe_op op_add (pe_op op_mulS pe_int (pv 3)) pe_int))
      (pss_cut (ps_if (pt_cmpR (op_neL hu) (pe_ix ix_V (pv 0) pe_int (fun _ _ => rfl)) (pe_lst pa_nil) (nomark _))
        (pss_one (ps_set (i := 4) scTk.nd rfl (Or.inl rfl) (pe_ix ix_I (pe_ix ix_V (pv 0) pe_int (fun _ _ => rfl)) (pe_op op_modP (pe_callTy call_int1 (by rfl) B.int bt_int (pa_cons (pv 3) pa_nil)) (pe_callB call_lenI (by rfl) B.len bt_len (pa_cons (pe_ix ix_V (pv 0) pe_int (fun _ _ => rfl)) pa_nil))) (fun _ _ => rfl)))) pss_nil)
      (pss_cut (ps_if (PW.pt (pw_and (pt_cmpR op_lt (pv 3) (pe_callB call_lenI (by rfl) B.len bt_len (pa_cons (pe_ix ix_V (pv 0) pe_int (fun _ _ => rfl)) pa_nil)) (nomark _))
          (pw_and1 (pt_cmpR op_ge (pe_callB call_abs (by rfl) B.abs bt_abs (pa_cons (pv 4) pa_nil)) (pe_op op_pow pe_int pe_int) (nomark _)))))
        (pss_cons (ps_set (i := 5) scTk.nd rfl (Or.inl rfl) (pe_op op_add (pe_op op_mul pe_int (pe_callB call_abs (by rfl) B.abs bt_abs (pa_cons (pv 4) pa_nil))) (pe_callTy call_int1 (by rfl) B.int bt_int (pa_cons (pe_cmpR op_lt (pv 4) pe_int (nomark _)) pa_nil))))
        (pss_cons (ps_asg (pe_op op_divP (pv 5) (pv 1)) (pg_sub (pv 0) pe_int set_list)) (pss_one (ps_ret (pe_op op_modP (pe_callTy call_int1 (by rfl) B.int bt_int (pa_cons (pv 5) pa_nil)) (pv 1)))))) pss_nil)
      (pss_cons (ps_set (i := 6) scTk.nd rfl (Or.inl rfl) (pe_op op_modP (pe_callTy call_int1 (by rfl) B.int bt_int (pa_cons (pe_op op_pow (pe_op op_add (pe_op op_add (pe_op op_modP (pe_callTy call_int1 (by rfl) B.int bt_int (pa_cons (pv 4) pa_nil)) pe_int) (pe_op op_mulS pe_int (pv 3))) pe_int) pe_int) pa_nil)) pe_int))
      (pss_cons (ps_set (i := 6) scTk.nd rfl (Or.inl rfl) (pe_op op_modP (pe_callTy call_int1 (by rfl) B.int bt_int (pa_cons (pe_op op_pow (pe_op op_add (pe_op op_add (pe_op op_mulS (pv 6) (pe_op op_add (pe_op op_mulS pe_int (pv 3)) pe_int)) (pe_op op_mulS (pe_op op_mulS pe_int (pv 3)) (pv 3))) pe_int) pe_int) pa_nil)) pe_int))
      (pss_one (ps_ret (pe_op op_modP (pe_callTy call_int1 (by rfl) B.int bt_int (pa_cons (pe_op op_divP (pv 6) pe_int) pa_nil)) (pv 1))))))))))), ?_⟩
    refine ⟨_, rfl, p, _, 2, _, rfl, rfl, hp, rfl, _, _, rfl, rfl, _, rfl, ?_⟩
    refine ite2 (fun _ => ?_) (fun _ => ?_)
    · refine ⟨_, rfl, p, _, 2, _, rfl, rfl, hp, rfl, .inl ⟨_, rfl, ?_⟩⟩
      refine ⟨_, rfl, _, _, rfl, rfl, l0, ?_⟩
      refine ⟨_, rfl, p, _, 2, _, rfl, rfl, hp, rfl, _, rfl, _, _, rfl, rfl, l0, l1, ?_⟩
      refine ⟨_, rfl, p, _, 2, 2, rfl, rfl, hp, rfl, ?_⟩
      refine ⟨_, rfl, ?_⟩
      refine k _ _ (fun b o nb e => by rw [upd_ne nb]; exact e) ⟨ns, t, _, upd_same, by rw [upd_ne nqp]; exact hq, t0, by omega⟩ (mod_ok l0).1 (mod_ok l0).2
    · refine ⟨_, rfl, p, _, 1, _, rfl, rfl, hp, rfl, ?_⟩
      refine ⟨_, rfl, _, _, rfl, rfl, _, rfl, p, _, 1, 1, rfl, rfl, hp, rfl, ?_⟩
      have hp1 : upd H p (.lst [.ref q, .int (t + 1), .int g]) p = some (.lst [.ref q, .int (t + 1), .int g]) := upd_same
      have hq1 : upd H p (.lst [.ref q, .int (t + 1), .int g]) q = some (.lst (ns.map V.int)) := by rw [upd_ne nqp]; exact hq
      have K1 : Keep p H (upd H p (.lst [.ref q, .int (t + 1), .int g])) := fun b o nb e => by rw [upd_ne nb]; exact e
      show tSeq _ _ _ _ (upd H p (.lst [.ref q, .int (t + 1), .int g]))
      revert hp1 hq1 K1
      generalize upd H p (.lst [.ref q, .int (t + 1), .int g]) = H1
      intro hp1 hq1 K1
      refine ⟨_, rfl, _, _, rfl, rfl, t0, by omega, _, _, rfl, rfl, ?_⟩
      refine ⟨fun σ' H2 => ∃ c : Int, σ' = [some (.ref p), some (.int lim), none, some (.int t), some (.int c), none, none] ∧ Same H1 H2, ?_, ?_⟩
      · refine ⟨_, rfl, p, _, 0, _, rfl, rfl, hp1, rfl, Nat.zero_le _, fun e he => ?_⟩
        have S2 := same_lay (o := .lst []) he
        refine ⟨q, e, ns, [], rfl, rfl, S2 _ _ hq1, upd_same, _, rfl, ?_⟩
        by_cases hns : ns = []
        · have z : (true != decide (ns = [])) = false := by simp [hns]
          rw [z]
          exact iteF ⟨_, rfl, S2⟩
        · have z : (true != decide (ns = [])) = true := by simp [hns]
          rw [z]
          have hl : 0 < ns.length := List.length_pos_iff.mpr hns
          have hm := mod_ok (i := t) (j := (ns.length : Int)) (by omega)
          have hj : (t % (ns.length : Int)).toNat < ns.length := by omega
          refine iteT ⟨_, rfl, p, _, 0, _, rfl, rfl, S2 _ _ hp1, rfl, ?_⟩
          refine ⟨_, rfl, .inl ⟨_, rfl, ?_⟩⟩
          refine ⟨_, rfl, p, _, 0, _, rfl, rfl, S2 _ _ hp1, rfl, q, _, rfl, .inl (S2 _ _ hq1), _, _, rfl, rfl, by omega, ?_⟩
          refine ⟨q, ns, (t % (ns.length : Int)).toNat, _, rfl, by rw [Int.toNat_of_nonneg hm.1], .inl (S2 _ _ hq1), List.getElem?_eq_getElem hj, ?_⟩
          exact ⟨_, rfl, S2⟩
      · rintro _ H2 ⟨c, rfl, S2⟩
        have hp2 := S2 _ _ hp1
        have hq2 := S2 _ _ hq1
        have K2 : Keep p H H2 := K1.trans (Keep.of S2)
        refine ⟨fun σ' H3 => σ' = [some (.ref p), some (.int lim), none, some (.int t), some (.int c), none, none] ∧ H3 = H2, ?_, ?_⟩
        · refine ⟨_, rfl, _, rfl, p, _, 0, _, rfl, rfl, hp2, rfl, q, _, rfl, .inl hq2, _, _, rfl, rfl, _, rfl, ?_⟩
          refine ite2 (fun _ => ?_) (fun _ => iteF ⟨rfl, rfl⟩)
          refine ⟨_, rfl, _, rfl, _, _, rfl, rfl, ⟨by decide, by decide, by decide⟩, _, _, rfl, rfl, _, rfl, ?_⟩
          refine ite2 (fun _ => ?_) (fun _ => ⟨rfl, rfl⟩)
          refine ⟨_, rfl, _, rfl, _, _, rfl, rfl, .inl ⟨by decide, by decide⟩, ?_⟩
          refine ⟨_, rfl, _, _, rfl, rfl, .inr ⟨_, rfl, _, _, rfl, rfl, ?_⟩⟩
          refine ⟨_, rfl, _, rfl, _, _, rfl, rfl, l0, l1, ?_⟩
          refine ⟨_, rfl, p, _, 2, 2, rfl, rfl, hp2, rfl, ?_⟩
          refine ⟨_, rfl, .inl ⟨_, rfl, _, rfl, _, _, rfl, rfl, l0, ?_⟩⟩
          refine k _ _ (K2.put) ⟨ns, t + 1, _, upd_same, by rw [upd_ne nqp]; exact hq2, by omega, by omega⟩ (mod_ok l0).1 (mod_ok l0).2
        · rintro _ _ ⟨rfl, rfl⟩
          refine ⟨_, rfl, .inl ⟨_, rfl, ?_⟩⟩
          refine ⟨_, _, rfl, rfl, by decide, ?_⟩
          have m1 := mod_ok (i := c) (j := 2147483629) (by decide)
          refine ⟨_, rfl, _, _, rfl, rfl, t0, by omega, ?_⟩
          refine ⟨_, _, rfl, rfl, _, _, rfl, rfl, _, _, rfl, rfl, ⟨by decide, by decide, by omega⟩, .inl ⟨_, rfl, ?_⟩⟩
          refine ⟨_, _, rfl, rfl, by decide, ?_⟩
          generalize hM : (c % 2147483629 + 40087 * t + 769) ^ Int.toNat 5 % 2147483587 = M1
          have m2 : 0 ≤ M1 ∧ M1 < 2147483587 := by
            rw [← hM]
            exact mod_ok (by decide)
          refine ⟨_, rfl, _, rfl, _, _, rfl, rfl, t0, by omega, _, _, rfl, rfl, _, _, rfl, rfl, by omega, by omega, ?_⟩
          refine ⟨_, rfl, _, _, rfl, rfl, t0, by omega, _, rfl, _, _, rfl, rfl, t0, by omega, ?_⟩
          have t1000 : t ≤ 1000 := by omega
          have b1 : M1 * (2 * t + 15) ≤ 2147483587 * 2015 := Int.mul_le_mul (by omega) (by omega) (by omega) (by decide)
          have b2 : 0 ≤ M1 * (2 * t + 15) := Int.mul_nonneg m2.1 (by omega)
          have b3 : 61051 * t * t ≤ 61051000 * 1000 := Int.mul_le_mul (by omega) t1000 t0 (by decide)
          have b4 : 0 ≤ 61051 * t * t := Int.mul_nonneg (by omega) t0
          refine ⟨_, _, rfl, rfl, _, _, rfl, rfl, _, _, rfl, rfl, ⟨by decide, by decide, by omega⟩, .inl ⟨_, rfl, ?_⟩⟩
          refine ⟨_, _, rfl, rfl, by decide, ?_⟩
          refine ⟨_, rfl, _, _, rfl, rfl, by decide, by decide, .inl ⟨_, rfl, _, rfl, _, _, rfl, rfl, l0, ?_⟩⟩
          exact k _ _ K2 ⟨ns, t + 1, g, hp2, hq2, by omega, by omega⟩ (mod_ok l0).1 (mod_ok l0).2
end
end K7

/-! _law_pick, _law_bases, _law_low. -/
namespace K7
open PySem PySem.Spec PyProof.Rows L2 StX
section
variable {P : Program} {w : World} {K : PySem.W.Frag} {mg : Str → Option Value} {base : Heap}
theorem nat_of {d : Int} (h : 0 ≤ d) : ∃ j : Nat, d = (j : Int) := ⟨d.toNat, (Int.toNat_of_nonneg h).symm⟩
theorem scPk : FnScope ["_law_pen_here", "_law_some"] ["_law_pen_here", "_law_some"] (defScope sPick) := ⟨rfl, rfl, rfl, by decide +kernel, rfl, by decide +kernel, by decide +kernel⟩
theorem ok_pick {f : Addr} {fd : FuncData} (F : Fun K "_law_pick" "_law_pick" sPick f fd) (B : Bi mg) (cT : CallF P w K mg base CX0 1 "_law_take" spTake) : FnOk P w K mg base CX0 2 f fd ["_law_pen_here", "_law_some"] spPick := by
  refine F.ok scPk (fun vs H Q E h => ?_) (fun cdv A outer s H vs Q E hr h => ?_)
  · obtain ⟨p, q, l, xs, n, rfl, _⟩ := h
    rfl
  · obtain ⟨p, q, l, xs, n, rfl, hp, hn, hl, x1, x2, k⟩ := h
    refine ⟨_, pss_one (ps_ret (pe_ix ix_I (pv 1) (pe_cf cT hr L2.pass0 (pa_cons (pv 0) (pa_cons (pe_callB call_lenI (by rfl) B.len bt_len (pa_cons (pv 1) pa_nil)) pa_nil))) (fun _ _ => rfl))), ?_⟩
    refine ⟨_, rfl, _, rfl, _, rfl, l, _, rfl, .inl hl, p, q, _, n, rfl, hp, hn, by omega, by omega, fun H' d K' hp' d0 d1 => ?_⟩
    obtain ⟨j, rfl⟩ := nat_of d0
    have nl : l ≠ p := hp.ne (.inl hl)
    have hj : j < xs.length := by omega
    exact ⟨l, xs, j, _, rfl, rfl, .inl (K' _ _ nl hl), List.getElem?_eq_getElem hj, k _ _ K' hp' (List.getElem_mem hj)⟩
theorem scBs : FnScope ["_law_pen_here", "_law_at"] ["_law_pen_here"] (defScope sBases) := ⟨rfl, rfl, rfl, by decide +kernel, rfl, by decide +kernel, by decide +kernel⟩
theorem ok_bases {f : Addr} {fd : FuncData} (F : Fun K "_law_bases" "_law_bases" sBases f fd) (B : Bi mg) (cT : CallF P w K mg base CX0 1 "_law_take" spTake) (cP : CallF P w K mg base CX0 2 "_law_pick" spPick) : FnOk P w K mg base CX0 3 f fd ["_law_pen_here"] spBases := by
  refine F.ok scBs (fun vs H Q E h => ?_) (fun cdv A outer s H vs Q E hr h => ?_)
  · obtain ⟨p, q, n, rfl, _⟩ := h
    rfl
  · obtain ⟨p, q, n, rfl, hp, hn, k⟩ := h
    have hr1 : Room 1 _ := hr.mono (by decide)
    refine ⟨_, pss_one (ps_ret (pe_lc (own := [("_law_at", 1)]) (g := gName 1) (tt := tYes) rfl scBs.nd (pi_range1 rfl B.range (pa_cons (pe_op op_add pe_int (pe_cf cT hr1 L2.pass0 (pa_cons (pv 0) (pa_cons pe_int pa_nil)))) pa_nil))
      (blkOk_by (N := ["_law_pen_here", "_law_at"]) (sc := defScope sBases) (by decide +kernel)) (fun _ _ _ _ _ => pg_name (i := 1) scBs.nd rfl (Or.inl rfl)) (fun _ _ _ _ _ => pts_nil)
      (fun _ _ _ _ _ => pe_cf cP hr L2.pass0 (pa_cons (pv 0) (pa_cons (pe_lst (pa_cons pe_int (pa_cons pe_int (pa_cons pe_int (pa_cons pe_int (pa_cons pe_int (pa_cons (pe_op op_add pe_int (pe_cf cT hr1 L2.pass0 (pa_cons (pv 0) (pa_cons pe_int pa_nil)))) pa_nil))))))) pa_nil))))), ?_⟩
    refine ⟨_, rfl, p, q, 4, n, rfl, hp, by omega, by decide, by decide, fun H1 d K1 hp1 d0 d1 => ?_⟩
    refine ⟨_, _, rfl, rfl, _, rfl, by omega, by omega, fun D hD => ?_⟩
    have hlen : (1 + d).toNat ≤ 4 := by omega
    have hlen1 : 1 ≤ (1 + d).toNat := by omega
    obtain ⟨nDp, nDq⟩ := hp1.off hD
    have hDH : H D = none := by
      cases e : H D with
      | none => rfl
      | some o => rw [K1 _ _ nDp e] at hD; cases hD
    refine lc_it (walk_range (lo := 0) (n := (1 + d).toNat)) (fun i H' => Keep p H H' ∧ PenAt H' p q (n + 1 + 2 * i) ∧ ∃ bs : List Int, bs.length = i ∧ Two bs ∧ H' D = some (.lst (bs.map V.int)))
      ⟨?_, hp1.same (same_lay hD), [], rfl, (fun x h => nomatch h), upd_same⟩ (fun _ _ _ _ => trivial) ?_ ?_
    · exact K1.trans (Keep.of (same_lay hD))
    · rintro i x H' _ hi ⟨Kp, hpi, bs, hl, tw, hDl⟩ ⟨rfl, rfl⟩
      refine ⟨rfl, ?_⟩
      refine ⟨_, rfl, ?_⟩
      refine ⟨_, rfl, p, q, 20, n + 1 + 2 * i, rfl, hpi, by omega, by decide, by decide, fun H2 d2 K2 hp2 e0 e1 => ?_⟩
      refine ⟨_, _, rfl, rfl, by show 6 ≤ sizeLine; decide, fun l hl2 => ?_⟩
      refine ⟨p, q, l, [2, 2, 3, 10, 100, 2 + d2], _, rfl, hp2.same (same_lay hl2), by omega, upd_same, by show 1 ≤ 6; decide, by show 6 ≤ 1000; decide, fun H3 b K3 hp3 hb => ?_⟩
      have hD3 : H3 D = some (.lst (bs.map V.int)) := by
        have z1 := K2 _ _ nDp hDl
        have z2 : upd H2 l (.lst [.int 2, .int 2, .int 3, .int 10, .int 100, .int (2 + d2)]) D = some (.lst (bs.map V.int)) := (upd_ne (ne_of_none z1 hl2)).trans z1
        exact K3 _ _ nDp z2
      have hb2 : 2 ≤ b ∧ b ≤ 100 := by
        have hb' : b = 2 ∨ b = 2 ∨ b = 3 ∨ b = 10 ∨ b = 100 ∨ b = 2 + d2 := by simpa using hb
        omega
      refine ⟨_, hD3, by rw [List.length_map]; exact small1000 (by omega), ?_, ?_, bs ++ [b], by simp [hl], fun x h => ?_, ?_⟩
      · have z : Keep p H H3 := ((Kp.trans K2).trans (Keep.of (same_lay hl2))).trans K3
        exact fun c o nc e => by
          rw [upd_ne (ne_of_none e hDH)]
          exact z c o nc e
      · exact (hp3.put nDp nDq).mono (by omega)
      · rcases List.mem_append.mp h with h | h
        · exact tw x h
        · rw [List.mem_singleton.mp h]
          exact hb2
      · rw [upd_same, List.map_append]
        rfl
    · rintro H' ⟨Kp, hpi, bs, hl, tw, hDl⟩
      exact k H' D bs Kp (hpi.mono (by omega)) hDH hDl ⟨by omega, by omega, tw⟩
end
end K7

/-! _law_low. -/
namespace K7
open PySem PySem.Spec PyProof.Rows L2 StX
section
variable {P : Program} {w : World} {K : PySem.W.Frag} {mg : Str → Option Value} {base : Heap}
theorem scLw : FnScope ["_law_pen_here", "_law_bases_here", "_law_room", "_law_weight", "_law_near"] ["_law_pen_here", "_law_bases_here"] (defScope sLow) := ⟨rfl, rfl, rfl, by decide +kernel, rfl, by decide +kernel, by decide +kernel⟩
theorem ok_low {f : Addr} {fd : FuncData} (F : Fun K "_law_low" "_law_low" sLow f fd) (B : Bi mg) (cT : CallF P w K mg base CX0 1 "_law_take" spTake) (cP : CallF P w K mg base CX0 2 "_law_pick" spPick) (cC : CallF P w K mg base CX0 5 "count_of" spCount)
    (cW : CallF P w K mg base CX0 4 "weights" spWeights) : FnOk P w K mg base CX0 6 f fd ["_law_pen_here", "_law_bases_here"] spLow := by
  refine F.ok scLw (fun vs H Q E h => ?_) (fun cdv A outer s H vs Q E hr h => ?_)
  · obtain ⟨p, q, a, bs, n, rfl, _⟩ := h
    rfl
  · obtain ⟨p, q, a, bs, n, rfl, hp, hn, hS, ok, k⟩ := h
    have hr1 : Room 1 _ := hr.mono (by decide)
    have hr2 : Room 2 _ := hr.mono (by decide)
    have hr4 : Room 4 _ := hr.mono (by decide)
    refine ⟨_, pss_cons (ps_set (i := 2) scLw.nd rfl (Or.inl rfl) (pe_cf cC hr L2.pass0 (pa_cons (pv 1) pa_nil)))
      (pss_cons (ps_set (i := 3) scLw.nd rfl (Or.inl rfl) (pe_cf cP hr2 L2.pass0 (pa_cons (pv 0) (pa_cons (pe_callTy call_list_of (by rfl) B.list bt_list (pa_cons (pe_cf cW hr4 L2.pass0 (pa_cons (pv 1) pa_nil)) pa_nil)) pa_nil))))
      (pss_cons (ps_set (i := 4) scLw.nd rfl (Or.inl rfl) (pe_op op_sub (pe_op op_sub (pe_op op_add (pe_op op_mulS (pv 3) (pe_cf cT hr1 L2.pass0 (pa_cons (pv 0) (pa_cons (pe_op op_divP (pv 2) (pv 3)) pa_nil)))) (pv 3)) pe_int) (pe_cf cT hr1 L2.pass0 (pa_cons (pv 0) (pa_cons pe_int pa_nil)))))
      (pss_one (ps_ret (pe_callB (call_max2 rfl) (by rfl) B.max bt_max (pa_cons pe_int (pa_cons (pe_callB (call_min2 rfl) (by rfl) B.min bt_min (pa_cons (pe_op op_sub (pv 2) pe_int)
        (pa_cons (pe_cf cP hr2 L2.pass0 (pa_cons (pv 0) (pa_cons (pe_lst (pa_cons pe_int (pa_cons (pv 4) (pa_cons (pv 4) (pa_cons (pe_op op_sub (pe_op op_sub (pv 2) pe_int) (pe_cf cT hr1 L2.pass0 (pa_cons (pv 0) (pa_cons pe_int pa_nil)))) (pa_cons (pe_cf cT hr1 L2.pass0 (pa_cons (pv 0) (pa_cons (pv 2) pa_nil))) pa_nil)))))) pa_nil))) pa_nil))) pa_nil))))))), ?_⟩
    have hroom := ok.room
    have hgt := ok.gt
    refine ⟨_, rfl, a, bs, rfl, hS, ok, fun H1 S1 => ?_⟩
    refine ⟨_, rfl, _, rfl, a, bs, rfl, hS.same S1, ok, fun H2 t S2 ht hT => ?_⟩
    refine ⟨t, _, rfl, .inr (SqT.of hT), fun l hl => ?_⟩
    have S12 := S1.trans S2
    have S3 := same_new (o := .lst ((wts bs).map V.int)) S12 hl
    refine ⟨p, q, l, wts bs, n, rfl, hp.same S3, by omega, upd_same, by rw [wts_len]; exact ok.pos, by rw [wts_len]; have := ok.few; omega, fun H4 wt K4 hp4 hw => ?_⟩
    obtain ⟨w1, w2⟩ := wts_room ok.two hw
    refine ⟨_, rfl, _, rfl, _, rfl, _, rfl, _, _, rfl, rfl, by omega, by omega, ?_⟩
    have hd1 : 1 ≤ prd bs / wt := by
      have := Int.ediv_le_ediv (show 0 < wt by omega) w2
      rw [Int.ediv_self (by omega)] at this
      exact this
    have hd2 : prd bs / wt ≤ prd bs := Int.ediv_le_self _ (by omega)
    refine ⟨p, q, _, n + 1, rfl, hp4, by omega, by omega, by omega, fun H5 d5 K5 hp5 d50 d51 => ?_⟩
    refine ⟨_, _, rfl, rfl, by omega, by omega, ?_⟩
    refine ⟨_, rfl, _, _, rfl, rfl, _, _, rfl, rfl, ?_⟩
    refine ⟨_, rfl, p, q, 3, n + 2, rfl, hp5, by omega, by decide, by decide, fun H6 d6 K6 hp6 d60 d61 => ?_⟩
    refine ⟨_, _, rfl, rfl, ?_⟩
    refine ⟨_, rfl, _, _, rfl, rfl, ?_⟩
    refine ⟨_, rfl, _, rfl, _, rfl, _, rfl, _, _, rfl, rfl, ?_⟩
    refine ⟨_, rfl, p, q, 5, n + 3, rfl, hp6, by omega, by decide, by decide, fun H7 d7 K7' hp7 d70 d71 => ?_⟩
    refine ⟨_, _, rfl, rfl, ?_⟩
    refine ⟨_, rfl, _, rfl, p, q, _, n + 4, rfl, hp7, by omega, by omega, by omega, fun H8 d8 K8 hp8 d80 d81 => ?_⟩
    refine ⟨by show 5 ≤ sizeLine; decide, fun m hm => ?_⟩
    refine ⟨p, q, m, [0, wt * d5 + wt - 1 - d6, wt * d5 + wt - 1 - d6, prd bs - 1 - d7, d8], n + 5, rfl, hp8.same (same_lay hm), by omega, upd_same, by show 1 ≤ 5; decide, by show 5 ≤ 1000; decide, fun H9 x K9 hp9 _ => ?_⟩
    refine ⟨_, _, rfl, ?_⟩
    refine ⟨_, _, rfl, ?_⟩
    have Kall : Keep p H H9 := ((((((Keep.of S3).trans K4).trans K5).trans K6).trans K7').trans K8).trans ((Keep.of (same_lay hm)).trans K9)
    refine k H9 _ Kall (hp9.mono (by omega)) ?_ ?_
    · split <;> split <;> omega
    · split <;> split <;> omega
end
end K7

/-! A caught error kept behind its suite in another name; its field read there. -/
namespace K7
open PySem PySem.Spec PyProof.Rows L2
/-- at a: an exception of the class cls with the dict d -/
def exK (a : Addr) (cls : Value) (d : Option Addr) : HO := .ext fun h => ∃ oe vs, h.get? a = some oe ∧ Zc cls d oe ∧ oe.data = .fields vs
section
variable {X : Cx} {pins : List (Addr × Obj)} {σ : L2.St} {H : Hp} {s : Shared}
/-- what is pinned and was not there at the entry may be tracked -/
theorem Inv.kept_as {a : Addr} {oe : Obj} {vs : Array Value} {cls : Value} {d : Option Addr} (I : Inv X ((a, oe) :: pins) σ H s) (hz : Zc cls d oe) (hd : oe.data = .fields vs) (off : ∀ o, X.s_0.heap.get? a = some o → X.H_0 a = none → a ∉ X.ex → False)
    (np : ∀ p ∈ X.pn ++ pins, p.1 ≠ a) : Inv X pins σ (upd H a (exK a cls d)) s := by
  obtain ⟨ha, hn, hL, hF, _⟩ := I.pin (a, oe) (List.mem_append_right _ List.mem_cons_self)
  have un : ∀ {b : Addr} {u : HO}, H b = some u → upd H a (exK a cls d) b = some u := fun {b u} e => by
    rw [upd_ne (ne_of_none e hn)]
    exact e
  refine ⟨I.ok, I.os, I.bare, ⟨I.base.keep, I.base.slot, fun b o e n hx => ?_, I.base.there, fun b xs e => un (I.base.tups b xs e), fun b o xs e => un (I.base.frzs b o xs e), fun b ps e => ?_⟩, I.loc, I.cell, ?_, fun x c e => ?_, fun p hp => ?_, fun b u e => ?_, I.len⟩
  · by_cases hb : b = a
    · subst hb
      exact (off o e n hx).elim
    · rw [upd_ne hb]
      exact I.base.free b o e n hx
  · obtain ⟨more, z⟩ := I.base.tbls b ps e
    exact ⟨more, un z⟩
  · rw [upd_ne (Ne.symm hL)]
    exact I.free
  · have nc : c ≠ a := fun z => by
      obtain ⟨v, o, ho, hv⟩ := I.cell x c e
      rw [z, ha] at ho
      cases ho
      rw [hd] at hv
      cases hv
    rw [upd_ne nc]
    exact I.freeC x c e
  · have q : p ∈ X.pn ++ (a, oe) :: pins := by
      rcases List.mem_append.mp hp with h | h
      · exact List.mem_append_left _ h
      · exact List.mem_append_right _ (List.mem_cons_of_mem _ h)
    obtain ⟨q1, q2, q3⟩ := I.pin p q
    exact ⟨q1, by rw [upd_ne (np p hp)]; exact q2, q3⟩
  · by_cases hb : b = a
    · subst hb
      rw [upd_same] at e
      cases e
      exact ⟨⟨oe, vs, ha, hz, hd⟩, ⟨oe, ha⟩, fun h1 h2 ⟨o1, v1, e1, z1, d1⟩ k => ⟨o1, v1, k _ e1, z1, d1⟩⟩
    · rw [upd_ne hb] at e
      exact (I.hok b u e).stay (fun _ _ _ z => z) (fun _ z => un z) fun _ _ z => un z
end
/-- what the clause wishes: the class is named; behind the suite the error is tracked, its own name is gone -/
def wKeep (K : PySem.W.Frag) (c : Value) (i : Nat) (ts : Addr → Value → Option Addr → TS) (D : Ends) : WX := fun cls d σ H =>
  PySem.W.exmOne K cls c = some true ∧ ∀ a, H a = none → ts a cls d { nx := fun σ' H' => H' a = none → D.nx (σ'.set i none) (upd H' a (exK a cls d)), rt := fun _ _ => False } (σ.set i (some (.ref a))) H
section
variable {X : Cx} {x n : Str} {c : Value} {i : Nat} {body suite : List Stmt} {b₀ : Stmt} {np pos pos' : Pos} {tb : WX → TS} {ts : Addr → Value → Option Addr → TS}
theorem ps_try_keep (hs : X.stack = X.env :: X.outer) (hf : X.env.frame = some X.env.locals) (hN : X.N.Nodup) (hi : X.N[i]? = some n) (hln : X.env.kindOf n = some .local) (hc : Names X x c)
    (hb : ∀ (W : WX) (pn : List (Addr × Obj)) (xe : Value → Shared → Prop), Takes (X.tr pn xe) W → PassesOwn (model X.prog X.w) X.A X.env xe → PSs (X.tr pn xe) body (tb W))
    (hsu : ∀ (a : Addr) (oe : Obj) (cls : Value) (d : Option Addr) (pn : List (Addr × Obj)), Zc cls d oe → (∃ vs, oe.data = .fields vs) → PSs (X.suite a ((a, oe) :: pn)) (b₀ :: suite) (ts a cls d)) :
    PS X (.Try body [.ExceptHandler (some (.Name x np)) (some n) (b₀ :: suite) pos'] [] [] pos) (fun D σ H => tb (wKeep X.K c i ts D) D σ H) := by
  refine ⟨fun pins s σ H D I h => ?_⟩
  have okX := I.ok
  have frX : X.A.frames = some (X.env :: X.outer) := by rw [okX.frames, hs]
  refine wpAny_Try_except ?_
  have run := (hb (wKeep X.K c i ts D) (X.pn ++ pins) (fun e s₁ => wpAny (model X.prog X.w) X.A (noteFrame e X.env) (fun _ s₂ => wpAny (model X.prog X.w) X.A (setFlight e none) (fun _ s₃ =>
    wpAny (model X.prog X.w) X.A (handleBy e X.env [.ExceptHandler (some (.Name x np)) (some n) (b₀ :: suite) pos']) (SP X pins D) X.xe s₃) X.xe s₂) X.xe s₁) ?_ PassesOwn.looking).run [] s σ H D (I.toTry _) h
  · refine wpAny_mono run (fun f s1 hsp => ?_) fun e s1 he => he
    cases f with
    | next =>
      obtain ⟨σ1, H1, J1, q⟩ := hsp
      exact wpAny_execs_nil ⟨σ1, H1, J1.ofTry okX, q⟩
    | brk =>
      obtain ⟨σ1, H1, J1, q⟩ := hsp
      exact ⟨σ1, H1, J1.ofTry okX, q⟩
    | cont =>
      obtain ⟨σ1, H1, J1, q⟩ := hsp
      exact ⟨σ1, H1, J1.ofTry okX, q⟩
    | ret u =>
      obtain ⟨v, σ1, H1, J1, r, q⟩ := hsp
      exact ⟨v, σ1, H1, J1.ofTry okX, r, q⟩
  · intro u s' air
    obtain ⟨a, B, sI, pins', σ1, H1, cls, d, rfl, Jt, nb, up, sky, na, os, ag, hexm, hyes⟩ := air
    have J : Inv X pins σ1 H1 sI := Jt.ofTry okX
    rw [hs] at sky
    show wpAny (model X.prog X.w) X.A (noteFrame (.ref a) X.env) _ _ _
    refine Sky.land Zc.steady frX hf sky fun h3 fl3 up3 => ?_
    have J3 : Inv X pins σ1 H1 { s' with heap := h3 } := J.landed nb fl3.1 (up.trans up3) os ag
    obtain ⟨oe3, vs3, he3, hz3, hd3⟩ := fl3.there
    have nfr : a ∉ frs (X.env :: X.outer) := fun hm => by
      obtain ⟨_, o', e', hnf⟩ := fl3.2.2.1.mem hm
      rw [he3] at e'
      cases e'
      exact hnf _ hd3
    have nL : a ≠ X.env.locals := fun z => nfr (List.mem_filterMap.mpr ⟨X.env, List.mem_cons_self, by rw [hf, z]⟩)
    have nF : a ∉ X.fs := fun hm => by
      obtain ⟨e, he, q⟩ := List.mem_filterMap.mp hm
      exact nfr (List.mem_filterMap.mpr ⟨e, List.mem_cons_of_mem _ he, q⟩)
    have Ba : B.get? a = none := fl3.2.1
    have inB : ∀ b o, sI.heap.get? b = some o → b ≠ a := fun b o e z => by
      subst z
      have := nb _ o e (by rw [hs]; exact nfr)
      rw [Ba] at this
      cases this
    have off : ∀ o, X.s_0.heap.get? a = some o → X.H_0 a = none → a ∉ X.ex → False := fun o e z hx => inB _ _ (J.base.keep a o e z nF hx) rfl
    have npa : ∀ p ∈ X.pn ++ pins, p.1 ≠ a := fun p hp => inB _ _ (J.pin p hp).1
    have S3 := J3.suite he3 hd3 na nL nF
    refine wpAny_handleBy_cons (codeAny_handlers_test ?_) (by intro q; cases q)
    have ty3 : PySem.W.Looks (model X.prog X.w) h3 (typeOf (.ref a)) cls := fun A' Q' E' t' k q => wpAny_typeOf_ref (k _ _ he3) (by rw [hz3.1]; exact q)
    have ask := PySem.W.exm_one (M := model X.prog X.w) J3.kIn ty3 hexm
    have named : ∀ {Q : Value → Shared → Prop} {E : Value → Shared → Prop}, Q c { s' with heap := h3 } → wpAny (model X.prog X.w) (X.A.mark (some (.ref a))) (eval (.Name x np) X.env) Q E { s' with heap := h3 } := fun {Q E} q => by
      obtain ⟨hg, hdbg, hm | ⟨hm, hv, hnn⟩⟩ := hc
      · exact ld_glob (X := X.suite a ((a, oe3) :: (X.pn ++ pins))) S3 hg hm q hdbg
      · exact ld_blt (X := X.suite a ((a, oe3) :: (X.pn ++ pins))) S3 hg hm hv q hnn hdbg
    refine named (ask.here ?_)
    refine codeAny_handlers_suite_as ?_
    refine HandSPX.lands_againZ fl3 fun h4 fl4 up4 => ?_
    obtain ⟨oe4, vs4, he4, hz4, hd4⟩ := fl4.there
    have J4 : Inv X pins σ1 H1 { s' with heap := h4 } := J.landed nb fl4.1 ((up.trans up3).trans up4) os ag
    have S4 := J4.suite he4 hd4 na nL nF
    refine store_ok (X := X.suite a ((a, oe4) :: (X.pn ++ pins))) (v := .ref a) S4 hN hi (.inl hln) rfl (fun s5 S5 => ?_) (.inr hln)
    refine wpAny_mono ((hsu a oe4 cls d (X.pn ++ pins) hz4 ⟨_, hd4⟩).run [] s5 _ H1 _ S5 (hyes a na)) (fun f s6 hsp => ?_) (fun _ _ z => False.elim z)
    cases f with
    | next =>
      obtain ⟨σ6, H6, S6, q6⟩ := hsp
      have P6 : Inv X ((a, oe4) :: pins) σ6 H6 s6 := (S6.unsuite okX).pins_of fun p hp => by
        rcases List.mem_cons.mp hp with e | e
        · subst e
          exact S6.pin _ (List.mem_append_left _ List.mem_cons_self)
        · exact S6.pin p (List.mem_append_left _ (List.mem_cons_of_mem _ (List.mem_append_right _ e)))
      have n6 : H6 a = none := (S6.pin (a, oe4) (List.mem_append_left _ List.mem_cons_self)).2.1
      exact gone_ok P6 hN hi hln fun s7 J7 => ⟨_, _, Inv.kept_as J7 hz4 hd4 off npa, q6 n6⟩
    | brk =>
      obtain ⟨σ6, H6, S6, q6⟩ := hsp
      exact q6.elim
    | cont =>
      obtain ⟨σ6, H6, S6, q6⟩ := hsp
      exact q6.elim
    | ret u =>
      obtain ⟨v6, σ6, H6, S6, r6, q6⟩ := hsp
      exact q6.elim
end
/-- x.f, x an error that was kept -/
structure KfT (K : PySem.W.Frag) (C : Addr) (f : Str) : Prop where
  ga : PySem.W.findIn K (.ref C) "__getattribute__" = some (some (.builtin "BaseException.__getattribute__"))
  gg : PySem.W.findIn K (.ref C) "__getattr__" = some none
  ex : PySem.W.subIn K (.ref C) (.type "BaseException") = some true
  hd : PySem.W.hasDictIn K C = true
  no : PySem.W.findIn K (.ref C) f = some none
def tKfld (C : Addr) (f : Str) (te : TE) : TE := fun σ H Q => te σ H fun x H1 => ∃ (a dd : Addr) (v : V), x = .ref a ∧ H1 a = some (exK a (.ref C) (some dd)) ∧ H1 dd = some (.xd [(f, v)]) ∧ Q v H1
theorem pe_kfld' {X : Cx} {e : Expr} {te : TE} {f : Str} {C : Addr} {pos : Pos} (T : KfT X.K C f) (he : PE X e te) (hb : attributeBase e f X.env (eval e X.env) = eval e X.env := by rfl) : PE X (.Attribute e f pos) (tKfld C f te) := by
  refine ⟨fun pins s σ H Q I h => ?_⟩
  refine attr_of hb (thn (he.run pins s σ H _ I h) fun u s1 ⟨x, H1, I1, rx, a, dd, v, ex, ea, ed, q⟩ => ?_)
  subst ex
  obtain rfl : u = Value.ref a := rx
  obtain ⟨⟨oe, vs, ha, hz, hdt⟩, _⟩ := (show ObjOk X.prog X.w H1 s1.heap a (exK a (.ref C) (some dd)) from I1.hok a _ ea)
  obtain ⟨mA, hns, hr⟩ := (show ObjOk X.prog X.w H1 s1.heap dd (.xd [(f, v)]) from I1.hok dd _ ed)
  obtain ⟨od, ho, hl⟩ := lookIn_ns hns
  have l : List.lookup f [(f, v)] = some v := by simp [List.lookup]
  obtain ⟨u, hu, ru⟩ := RelO.some_of (v := v) (o := mA f) (by rw [← l]; exact hr f)
  have J : PySem.W.InstAt s1.heap a oe C (some od) := ⟨ha, hz.1, by unfold PySem.W.notCls; rw [hdt] <;> rfl, by rw [hz.2]; exact ho⟩
  exact HandSPX.exc_get I1.kIn J T.ga T.gg T.ex (PySem.W.findObj_own T.hd T.no rfl (by rw [hl, hu])) (handed_of ru) ⟨v, H1, I1.tok _, ru, q⟩
end K7

/-! _law_beyond, _law_unlike. -/
namespace K7
open PySem PySem.Spec PyProof.Rows L2 StX
section
variable {X : Cx} {CX : CXT} {k : Nat} {sp : Sp} {E : L2.St → XK} {x : Str} {e : Expr} {es : List Expr} {t : TA} {p pos : Pos}
/-- a call whose wish for errors hangs on the slots -/
def tCallRS (sp : Sp) (E : L2.St → XK) (t : TA) : TE := fun σ H Q => t σ H fun vs H1 => sp vs H1 Q (E σ)
theorem pe_cfS (c : CallF X.prog X.w X.K X.mg X.base CX k x sp) (hr : Room k X.A) (hx : ∀ σ, PassesAt CX X σ (E σ)) (ha : PA X (e :: es) t)
    (hg : Gl X x := by rfl) (hd : (x == ("__debug__" : Str)) = false := by decide)
    (he : starEach (e :: es) X.env = (false, eval e X.env) :: starEach es X.env := by rfl) (hpl : (backTo pos (starEach es X.env)).any (·.1) = false := by rfl) :
    PE X (.Call (.Name x p) (e :: es) [] pos) (tCallRS sp E t) := by
  obtain ⟨f, F, hk, hm⟩ := c
  refine ⟨fun pins s σ H Q I h => ?_⟩
  refine wpAny_Call_Name_kw (ld_glob I hg hm ?_ hd)
  refine PySem.W.callWith_K (h₀ := X.base) I.ok.mod.kin hk (thn (ha.run pos pins s σ H _ I h) fun us s1 ⟨vs, H1, I1, r, q⟩ => ⟨I1.kIn, ?_⟩) he hpl
  refine wpAny_call (codeAny_mono (F X.A X.stack s1 H1 us vs Q (E σ) hr I1.env0 r q) fun r s' hq => ?_)
  cases r with
  | error e => exact hx σ pins H1 s1 e s' I1 hq
  | ok fl =>
    cases fl with
    | ret u => exact I1.after hq
    | next => exact False.elim hq
    | brk => exact False.elim hq
    | cont => exact False.elim hq
/-- list(g), the generator's wish for errors hangs on the slots -/
theorem pe_listGS {tg : L2.St → TGen} {nm : Str} (h : ∀ σ, PGen X k e (tg σ) (E σ)) (hx : ∀ σ, PassesAt (L2.CX X.prog X.w) X σ (E σ)) (hns : ∀ σ, NoStop X.K (E σ)) (hr : Room (k + 3) X.A) (hmg : X.mg nm = none) (hv : bootBuiltins nm = some (.type "list")) (hg : Gl X nm := by rfl)
    (hnm : nm ≠ "__name__" := by decide) (hdb : (nm == ("__debug__" : Str)) = false := by decide)
    (he : starEach [e] X.env = (false, eval e X.env) :: starEach [] X.env := by rfl) : PE X (.Call (.Name nm p) [e] [] pos) (fun σ H Q => tListG (tg σ) σ H Q) := by
  refine ⟨fun pins s σ H Q I hq => ?_⟩
  refine wpAny_Call_Name_kw (ld_blt I hg hmg hv ?_ hnm hdb)
  refine PyProof.Rows.callWith_type1 ?_ he rfl
  rw [he]
  refine Calls.spliced_cons (thn ((h σ).run pins s σ H _ I hq) fun u s1 ⟨H1, sc, ex, I1, hex, hG⟩ => Calls.spliced_nil ?_)
  have older : sc.heap.objs.size ≤ s1.heap.objs.size := by
    obtain ⟨a, g, c, _, h1, h2, _⟩ := hG
    exact Nat.le_trans h1 (Nat.le_of_lt h2)
  refine call_list_new hr I1.ok.frames hG (fun S s' acc c H' ys q0 q1 q2 hl q3 q4 q5 q6 q7 q8 => ⟨.ref S, upd H' S (.lst ys), I1.drained (Nat.le_trans older q0) hl q1 q2 hex q3 q4 q5 q6 q7, rfl, q8 S q7⟩) fun e s' g hc => ⟨?_, ?_⟩
  · refine notStop_of (hns σ) ?_ hc
    obtain ⟨a, B, H', cls, d, _, fl, _, ub, _⟩ := hc
    refine I1.ok.mod.kin.keeps fun b o eb => fl.1 b o (ub.keep b o (I1.bs b o eb).1 (I1.bs b o eb).2 fun hm => ?_)
    rcases List.mem_cons.mp (I1.stkSub b hm) with z | z
    · have hlt := Nat.lt_of_lt_of_le (Heap.lt_size eb) (Nat.le_trans I1.ok.bsz I1.ok.above)
      rw [z] at hlt
      exact Nat.lt_irrefl _ hlt
    · exact I1.ok.nofr eb z
  · refine hx σ pins H1 sc e _ I1 ?_
    obtain ⟨a, B, H', cls, d, z1, fl, z2, ub, z3, z4, z5, z6⟩ := hc
    exact ⟨a, B, H', cls, d, z1, fl, z2, ub, z3, z4, allBare_setGen z5 rfl, z6⟩
theorem op_notR : OpR X (compareOp .IsNot) (fun x y H Q => ∃ a, x = .ref a ∧ y = .non ∧ Q (.bl true) H) := OpRimp op_notN fun x y H Q ⟨a, ex, ey, q⟩ => by
  subst ex
  exact ⟨ey, q⟩
theorem op_isNN : OpR X (compareOp .Is) (fun x y H Q => x = .non ∧ y = .non ∧ Q (.bl true) H) := OpRimp op_isN fun x y H Q ⟨ex, ey, q⟩ => by
  subst ex
  exact ⟨ey, q⟩
end
def spBeyond (C : Addr) : Sp := fun vs H Q _ => ∃ p bs v, vs = [.ref p] ∧ NumAt C H p bs v ∧ v = prd bs - 1 ∧ ∀ H', Same H H' → Q (.int (prd bs)) H'
def spUnlike (C : Addr) : Sp := fun vs H Q _ => ∃ p q bs cs v u, vs = [.ref p, .ref q] ∧ NumAt C H p bs v ∧ NumAt C H q cs u ∧ bs ≠ cs ∧ u - v < 1000 ∧ ∀ H', Same H H' → Q (.bl true) H'
section
variable {P : Program} {w : World} {K : PySem.W.Frag} {mg : Str → Option Value} {base : Heap} {C CO CU : Addr}
theorem scBy : FnScope ["_law_numeral", "_law_told", "_law_caught", "error"] ["_law_numeral"] (defScope sBeyond) := ⟨rfl, rfl, rfl, by decide +kernel, rfl, by decide +kernel, by decide +kernel⟩
theorem ok_beyond {f : Addr} {fd : FuncData} (F : Fun K "_law_beyond" "_law_beyond" sBeyond f fd) (cC : CallF P w K mg base (L2.CX P w) 8 "carry" (spCarry C CO)) (mgO : mg "Overflow" = some (.ref CO)) (ex : PySem.W.exmOne K (.ref CO) (.ref CO) = some true) (kf : KfT K CO "value") :
    FnOk P w K mg base CX0 9 f fd ["_law_numeral"] (spBeyond C) := by
  refine F.ok scBy (fun vs H Q E h => ?_) (fun cdv A outer s H vs Q E hr h => ?_)
  · obtain ⟨p, bs, v, rfl, _⟩ := h
    rfl
  · obtain ⟨p, bs, v, rfl, hN, rfl, k⟩ := h
    refine ⟨_, pss_cons (ps_set (i := 1) scBy.nd rfl (Or.inl rfl) pe_non) (pss_cons (ps_set (i := 2) scBy.nd rfl (Or.inl rfl) pe_non)
      (pss_cons (ps_try_keep (i := 3) (tb := fun W => tAsg (tCallRS (spCarry C CO) (WE W) (tCons (tVar 0) tNil)) (gName 1)) (ts := fun _ _ _ => tAsg (tVar 3) (gName 2)) rfl rfl scBy.nd rfl rfl ⟨rfl, by decide, .inl mgO⟩
          (fun W pn xe tk _ => pss_one (ps_set (i := 1) scBy.nd rfl (Or.inl rfl) (by exact (pe_cfS cC hr (fun σ => passAt tk σ) (by exact (pa_cons (pv 0) pa_nil))))))
          (fun a oe cls d pn hz hf => pss_one (ps_set (i := 2) scBy.nd rfl (Or.inl rfl) (by exact (pv 3)))))
      (pss_one (ps_ret (pe_ifExp (PW.pt (pw_and (pt_cmpR op_notR (pv 2) pe_non (nomark _)) (pw_and1 (pt_cmpR op_isNN (pv 1) pe_non (nomark _))))) (pe_kfld' kf (pv 2)) pe_non))))), ?_⟩
    refine ⟨_, rfl, p, bs, _, rfl, hN, fun c => by omega, fun _ H' d S hd hD => ⟨ex, fun a na => ?_⟩⟩
    refine ⟨_, rfl, fun na' => ?_⟩
    have nda : d ≠ a := fun z => by rw [← z, hD] at na; cases na
    refine ⟨_, rfl, a, rfl, rfl, true, rfl, ?_⟩
    refine iteT ?_
    refine ⟨_, rfl, rfl, rfl, true, rfl, ?_⟩
    refine iteT ?_
    refine ⟨_, rfl, a, d, .int (prd bs - 1 + 1), rfl, upd_same, by rw [upd_ne nda]; exact hD, ?_⟩
    have e : prd bs - 1 + 1 = prd bs := by omega
    rw [e]
    exact k _ (same_new S na)
theorem scUn : FnScope ["_law_low_here", "_law_high", "_law_caught", "_law_rows", "error"] ["_law_low_here", "_law_high"] (defScope sUnlike) := ⟨rfl, rfl, rfl, by decide +kernel, rfl, by decide +kernel, by decide +kernel⟩
/-- the generator def, called -/
structure FromT (P : Program) (w : World) (K : PySem.W.Frag) (mg : Str → Option Value) (base : Heap) (C CU : Addr) : Prop where
  fn : ∃ f fd, GFn P w K mg base 7 f fd ["low", "high"] (spFrom C CU) ∧ Binds K fd ["low", "high"] [] ∧ PySem.W.keepIn K (.ref f) = true ∧ mg "numerals_from" = some (.ref f)
theorem ok_unlike {f : Addr} {fd : FuncData} (F : Fun K "_law_unlike" "_law_unlike" sUnlike f fd) (B : Bi mg) (G : FromT P w K mg base C CU) (mgU : mg "Unlike" = some (.ref CU)) (ex : PySem.W.exmOne K (.ref CU) (.ref CU) = some true)
    (ns : PySem.W.subIn K (.ref CU) (.type "StopIteration") = some false) : FnOk P w K mg base CX0 11 f fd ["_law_low_here", "_law_high"] (spUnlike C) := by
  refine F.ok scUn (fun vs H Q E h => ?_) (fun cdv A outer s H vs Q E hr h => ?_)
  · obtain ⟨p, q, bs, cs, v, u, rfl, _⟩ := h
    rfl
  · obtain ⟨p, q, bs, cs, v, u, rfl, hN, hM, ne, lt, k⟩ := h
    obtain ⟨fG, fdG, GF, bG, kG, mgG⟩ := G.fn
    have hr7 : Room 7 _ := hr.mono (by decide)
    have hu : (A.deeper (envOfC "_law_unlike" (defScope sUnlike) s.heap.objs.size f cdv)).units + 64 < cLine := by have := hr.un; omega
    refine ⟨_, pss_cons (ps_set (i := 2) scUn.nd rfl (Or.inl rfl) pe_non) (pss_cons (ps_set (i := 3) scUn.nd rfl (Or.inl rfl) (pe_lst pa_nil))
      (pss_cons (ps_try_keep (i := 4) (tb := fun W => tAsg (fun σ H Q => tListG (tCallG (spFrom C CU) [] (fun cls d H => W cls d σ H ∧ cls = .ref CU) (tCons (tVar 0) (tCons (tVar 1) tNil))) σ H Q) (gName 3)) (ts := fun _ _ _ => tAsg (tVar 4) (gName 2)) rfl rfl scUn.nd rfl rfl ⟨rfl, by decide, .inl mgU⟩
          (fun W pn xe tk _ => pss_one (ps_set (i := 3) scUn.nd rfl (Or.inl rfl) (by exact (pe_listGS (E := fun σ cls d H => W cls d σ H ∧ cls = .ref CU)
            (fun σ => pgen_call GF hr7 rfl mgG kG bG .nil (by exact (pa_cons (pv 0) (pa_cons (pv 1) pa_nil)))) (fun σ pins H s e s' I c => tk e s' (XE.of_call I (fun _ _ _ h => h.1) c)) (fun σ cls d H h => by rw [h.2]; exact ns) (hr.mono (by decide)) B.list bt_list))))
          (fun a oe cls d pn hz hf => pss_one (ps_set (i := 2) scUn.nd rfl (Or.inl rfl) (by exact (pv 4)))))
      (pss_one (ps_ret (pe_and (pe_cmpR op_notR (pv 2) pe_non (nomark _)) (pe_one (pe_cmpR (op_eqL hu) (pv 3) (pe_lst pa_nil) (nomark _)))))))), ?_⟩
    refine ⟨Nat.zero_le _, fun l hl => ?_⟩
    have S1 := same_lay (o := .lst []) hl
    refine ⟨_, rfl, _, rfl, p, q, bs, cs, v, u, rfl, hN.same S1, hM.same S1, lt, fun z => (ne z).elim, fun _ => ⟨⟨ex, fun a na => ?_⟩, rfl⟩⟩
    refine ⟨_, rfl, fun na' => ?_⟩
    have nla : l ≠ a := fun z => by rw [← z, upd_same] at na; cases na
    have S2 := same_new (o := exK a (.ref CU) none) S1 na
    refine ⟨_, rfl, a, rfl, rfl, true, rfl, ?_⟩
    refine iteT ?_
    refine ⟨_, rfl, Nat.zero_le _, fun m hm => ?_⟩
    refine ⟨l, m, [], [], rfl, rfl, ?_, upd_same, ?_⟩
    · have nlm : l ≠ m := fun z => by rw [← z, upd_ne nla, upd_same] at hm; cases hm
      rw [upd_ne nlm, upd_ne nla, upd_same]
      rfl
    · exact k _ (same_new S2 hm)
end
end K7

/-! repr of a short list of small ints; promises where no guard stands. -/
namespace K7
open PySem PySem.Spec PyProof.Rows L2 StX
theorem text_le : ∀ (ts : List Str) (m : Nat) (pre : Str), (∀ t ∈ ts, t.length ≤ 1) → (textFrom m pre ts).length ≤ pre.length + 3 * ts.length
  | [], m, pre, _ => by
    show pre.length ≤ _
    omega
  | t :: more, m, pre, h => by
    have ih := text_le more (m + 1) (pre ++ (if m > 0 then ", " else "" : String) ++ t) fun x hx => h x (List.mem_cons_of_mem _ hx)
    have ht := h t List.mem_cons_self
    have e : (pre ++ (if m > 0 then ", " else "" : String) ++ t).length = pre.length + (if m > 0 then 2 else 0) + t.length := by
      rw [strLen_append, strLen_append]
      by_cases c : m > 0
      · rw [if_pos c, if_pos c]; rfl
      · rw [if_neg c, if_neg c]; rfl
    show (textFrom (m + 1) (pre ++ (if m > 0 then ", " else "" : String) ++ t) more).length ≤ _
    have e2 : (if m > 0 then 2 else 0) ≤ 2 := by split <;> omega
    rw [List.length_cons]
    omega
/-- ints of one figure -/
def Small10 (ns : List Int) : Prop := ns.length ≤ 100 ∧ ∀ n ∈ ns, 0 ≤ n ∧ n < 10
theorem shownAll_len : ∀ ns : List Int, (PyData.shownAll (dI ns)).length = ns.length
  | [] => rfl
  | n :: ns => by
    show (PyData.shownAll (dI ns)).length + 1 = ns.length + 1
    rw [shownAll_len ns]
theorem shownAll_one : ∀ ns : List Int, (∀ n ∈ ns, 0 ≤ n ∧ n < 10) → ∀ t ∈ PyData.shownAll (dI ns), t.length ≤ 1
  | [], _, t, h => by cases h
  | n :: ns, hn, t, h => by
    rcases List.mem_cons.mp (show t ∈ PyData.shown (.int n) :: PyData.shownAll (dI ns) from h) with e | h
    · subst e
      obtain ⟨h0, h1⟩ := hn n List.mem_cons_self
      exact toString_length_le (k := 1) h0 (by decide) (by simpa using h1)
    · exact shownAll_one ns (fun m hm => hn m (List.mem_cons_of_mem _ hm)) t h
theorem showable_all : ∀ ns : List Int, (∀ n ∈ ns, 0 ≤ n ∧ n < 10) → PyData.showableAll (dI ns) = true
  | [], _ => rfl
  | n :: ns, hn => by
    obtain ⟨h0, h1⟩ := hn n List.mem_cons_self
    show (decide (n.natAbs.log2 < 1920) && PyData.showableAll (dI ns)) = true
    rw [showable_all ns fun m hm => hn m (List.mem_cons_of_mem _ hm), decide_eq_true]
    · rfl
    · have : n.natAbs.log2 ≤ n.natAbs := Nat.log2_le_self _
      omega
def reprI (ns : List Int) : Str := (PyData.list (dI ns)).shown
section
variable {X : Cx}
theorem call_reprI (hg : X.A.guards = some []) (hu : X.A.units + 64 < cLine) : CallR X (.builtin "repr") (fun xs H Q => ∃ (a : Addr) (ns : List Int), xs = [.ref a] ∧ H a = some (.lst (ns.map V.int)) ∧ Small10 ns ∧ Q (.str (reprI ns)) H) := by
  intro pins s σ H xs us Q I r h
  obtain ⟨a, ns, rfl, ha, ⟨hl, hn⟩, q⟩ := h
  obtain ⟨u, rfl, ru⟩ := r.one
  cases (show u = Value.ref a from ru)
  obtain ⟨as, rd⟩ := Dp.reads I (.list (dI ns)) (.ref a) (.ref a) (.lst (SqL.of ha) (dp_all ns)) rfl
  have hd : (PyData.list (dI ns)).hasDict = false := PyData.hasDict_of_canLay _ (show PyData.canLayAll0 (dI ns) = true from lay_ints ns)
  have hdep : (PyData.list (dI ns)).depth = 1 := by
    show PyData.depthAll (dI ns) + 1 = 1
    rw [depth_ints]
  have hz : (PyData.list (dI ns)).shown.length ≤ sizeLine := by
    show (listText (PyData.shownAll (dI ns))).length ≤ sizeLine
    have h1 := text_le (PyData.shownAll (dI ns)) 0 "[" (shownAll_one ns hn)
    rw [shownAll_len] at h1
    show (textFrom 0 "[" (PyData.shownAll (dI ns)) ++ ("]" : Str)).length ≤ sizeLine
    rw [strLen_append]
    have e1 : (("[" : Str)).length = 1 := rfl
    have e2 : (("]" : Str)).length = 1 := rfl
    have e3 := sizeLine_eq
    omega
  refine repr_of_reads' rd (show PyData.showableAll (dI ns) = true from showable_all ns hn) (PyData.noDict_hsm hd) hg (by rw [hdep]; omega) (fun _ _ e => e) (fun h' t tk k => ?_) hz
  exact ⟨.str (reprI ns), H, I.kept (t' := tk) k, ⟨t, rfl⟩, q⟩
theorem op_neS : OpR X (compareOp .NotEq) (fun x y H Q => ∃ z, x = .str z ∧ y = .str z ∧ Q (.bl false) H) := OpRimp op_ne fun x y H Q ⟨z, ex, ey, q⟩ => by
  subst ex ey
  refine ⟨rfl, ?_⟩
  rw [decide_eq_true rfl]
  exact q
end
/-! ### promises where no guard stands -/
def FnG (P : Program) (w : World) (K : PySem.W.Frag) (mg : Str → Option Value) (base : Heap) (k : Nat) (f : Addr) (sp : Sp) : Prop :=
  ∀ (A : Around) (outer : List Env) (s : Shared) (H : Hp) (us : List Value) (vs : List V) (Q : VK), Room k A → A.guards = some [] → Env0 P w K mg base A outer s H → Vals vs us → sp vs H Q E0 →
    codeAny (model P w) A (.call (.ref f) ⟨us, []⟩) (CR CX0 outer P w H s Q E0) s
abbrev CallG (P : Program) (w : World) (K : PySem.W.Frag) (mg : Str → Option Value) (base : Heap) (k : Nat) (x : Str) (sp : Sp) : Prop := ∃ f, FnG P w K mg base k f sp ∧ PySem.W.keepIn K (.ref f) = true ∧ mg x = some (.ref f)
section
variable {X : Cx} {k : Nat} {sp : Sp} {x : Str} {e : Expr} {es : List Expr} {t : TA} {p pos : Pos}
theorem pe_cg (c : CallG X.prog X.w X.K X.mg X.base k x sp) (hr : Room k X.A) (hgd : X.A.guards = some []) (ha : PA X (e :: es) t)
    (hg : Gl X x := by rfl) (hd : (x == ("__debug__" : Str)) = false := by decide)
    (he : starEach (e :: es) X.env = (false, eval e X.env) :: starEach es X.env := by rfl) (hpl : (backTo pos (starEach es X.env)).any (·.1) = false := by rfl) :
    PE X (.Call (.Name x p) (e :: es) [] pos) (tCallR sp E0 t) := by
  obtain ⟨f, F, hk, hm⟩ := c
  refine ⟨fun pins s σ H Q I h => ?_⟩
  refine wpAny_Call_Name_kw (ld_glob I hg hm ?_ hd)
  refine PySem.W.callWith_K (h₀ := X.base) I.ok.mod.kin hk (thn (ha.run pos pins s σ H _ I h) fun us s1 ⟨vs, H1, I1, r, q⟩ => ⟨I1.kIn, ?_⟩) he hpl
  refine wpAny_call (codeAny_mono (F X.A X.stack s1 H1 us vs Q hr hgd I1.env0 r q) fun r s' hq => ?_)
  cases r with
  | error e => exact False.elim hq
  | ok fl =>
    cases fl with
    | ret u => exact I1.after hq
    | next => exact False.elim hq
    | brk => exact False.elim hq
    | cont => exact False.elim hq
end
section
variable {P : Program} {w : World} {K : PySem.W.Frag} {mg : Str → Option Value} {base : Heap}
/-- a def's promise where no guard stands, by its body -/
theorem okG {x qual : Str} {st : Stmt} {f : Addr} {fd : FuncData} {N ps : List Str} {k : Nat} {sp : Sp} (F : Fun K x qual st f fd) (S : FnScope N ps (defScope st)) (hb : Binds K fd ps []) (len : ∀ vs H Q, sp vs H Q E0 → vs.length = ps.length)
    (hbody : ∀ (cdv : Value) (A : Around) (outer : List Env) (s : Shared) (H : Hp) (vs : List V) (Q : VK), Room k (A.deeper (envOfC qual (defScope st) s.heap.objs.size f cdv)) → A.guards = some [] → sp vs H Q E0 →
      ∃ t, PSs (cxOf CX0 P w K mg base N qual (defScope st) f cdv A outer s H E0).nox (defBody st) t ∧ t { nx := fun _ H' => Q .non H', rt := Q } (start N vs) H) : FnG P w K mg base (k + 1) f sp := by
  intro A outer s H us vs Q hr hgd e0 r hsp
  have hl := len _ _ _ hsp
  have KX : K.In s.heap := e0.mod.kin.keeps fun b o e => (e0.bs b o e).1
  have hbind := hb s us KX (by rw [List.append_nil, ← r.length]; exact hl)
  rw [List.append_nil] at hbind
  obtain ⟨oc, od, kV, doc, pm, an, cdv, ct, osl, rfl, lk, hcd⟩ := F.ex
  have kinds : ∀ y ∈ ps.zip us, (defScope st).names.lookup y.1 = some .local ∨ ((defScope st).names.lookup y.1 = some .cell ∧ ((cellsFrom (s.heap.objs.size + 1) (defScope st).names []).lookup y.1).isSome = true) := fun ⟨n, v⟩ hy =>
    (S.par n (List.of_mem_zip hy).1).imp id fun q => ⟨q, PySem.W.cellsFrom_some _ _ _ (.inl q)⟩
  refine codeAny_call_function hr.depth (KX _ _ lk) rfl S.co S.gen rfl (PySem.W.codeRec_of KX hcd) (hbind _ _ _ _ (wpAny_newFunctionEnv_cells S.kind kinds fun env he s1 x => ?_))
  subst he
  refine ⟨(e0.mod.nolimit.keeps fun b o e => (e0.bs b o e).1).keeps x.toInCall.keep, codeAny_func ?_⟩
  obtain ⟨t, ht, hq⟩ := hbody cdv A outer s H vs Q (hr.deeper _) hgd hsp
  have I : Inv (cxOf CX0 P w K mg base N qual (defScope st) f cdv A outer s H E0) [] (start N vs) H s1 := inv_start S hr.hd e0 hl r x
  refine wpAny_mono (ht.nox.run [] s1 (start N vs) H _ I hq) (fun fl s' hs => ?_) fun e s' hs => hs
  have done : ∀ {σ' : L2.St} {H' : Hp} {v : V} {u : Value}, Inv (cxOf CX0 P w K mg base N qual (defScope st) f cdv A outer s H E0) [] σ' H' s' → RelV v u → Q v H' → CE outer P w H s Q u s' :=
    fun {σ' H' v u} J rv q => ⟨v, H', J.os, J.bare, J.base, J.hok, rv, q⟩
  cases fl with
  | ret u =>
    obtain ⟨v, σ', H', J, rv, q⟩ := hs
    exact done J rv q
  | next =>
    obtain ⟨σ', H', J, q⟩ := hs
    exact done (v := V.non) (u := Value.none) J rfl q
  | brk =>
    obtain ⟨_, _, _, q⟩ := hs
    exact q.elim
  | cont =>
    obtain ⟨_, _, _, q⟩ := hs
    exact q.elim
end
end K7

/-! _law_step_right. -/
namespace K7
open PySem PySem.Spec PyProof.Rows L2 StX
/-- own len, [i], ==, + of Numeral -/
structure OpsT (P : Program) (w : World) (K : PySem.W.Frag) (mg : Str → Option Value) (base : Heap) (C CO : Addr) : Prop where
  len : ∃ g, PySem.W.findIn K (.ref C) "__len__" = some (some (.ref g)) ∧ PySem.W.isFn K (.ref g) = true ∧ FnR P w K mg base CX0 1 g (spLen C)
  item : ∃ g, PySem.W.findIn K (.ref C) "__getitem__" = some (some (.ref g)) ∧ PySem.W.isFn K (.ref g) = true ∧ PySem.W.fnIn K g = true ∧ FnR P w K mg base CX0 2 g (spItem C)
  eq : ∃ g, PySem.W.findIn K (.ref C) "__eq__" = some (some (.ref g)) ∧ PySem.W.isFn K (.ref g) = true ∧ FnR P w K mg base CX0 1 g (spEq C)
  ne : PySem.W.findIn K (.ref C) "__ne__" = some (some (.builtin "object.__ne__"))
  sub : PySem.W.subIn K (.ref C) (.type "object") = some true
  add : AddT P w K mg base C CO
section
variable {X : Cx} {e b : Expr} {te tb : TE} {C CO : Addr} {pos : Pos}
/-- xs[1:] -/
def tTail (te : TE) : TE := fun σ H Q => te σ H fun x H1 => ∃ (a : Addr) (ns : List Int), x = .ref a ∧ H1 a = some (.lst (ns.map V.int)) ∧ ∀ p, H1 p = none → Q (.ref p) (upd H1 p (.lst ((ns.drop 1).map V.int)))
theorem cut_tail (ns : List Int) : cutV (ns.map V.int) (some 1) none = (ns.drop 1).map V.int := by
  unfold cutV
  have e1 : HT.sIx (ns.map V.int).length 0 (some 1) = min 1 ns.length := by
    rw [List.length_map]
    exact HT.sIx_nat ns.length 0 1
  have e2 : HT.sIx (ns.map V.int).length (ns.map V.int).length none = ns.length := by
    rw [List.length_map]
    rfl
  rw [e1, e2, ← List.map_drop, ← List.map_take]
  congr 1
  cases ns with
  | nil => rfl
  | cons n ns =>
    have e3 : min 1 (n :: ns).length = 1 := by simp
    rw [e3]
    simp
theorem pe_tail {k : Nat} {p1 p2 : Pos} (he : PE X e te) : PE X (.Subscript e (.Slice (some (.Constant (.int 1) k p1)) none none p2) pos) (tTail te) :=
  PEimp (pe_slice sl_list (PEup he) (po_some pe_int) po_none) fun σ H Q q => ⟨_, q, fun x H1 ⟨a, ns, ex, h, kk⟩ => ⟨1, rfl, a, _, ex, SqL.of h, fun p hp => by
    rw [cut_tail]
    exact kk p hp⟩⟩
theorem pe_item (T : OpsT X.prog X.w X.K X.mg X.base C CO) (hr : Room 3 X.A) (ha : PE X e te) (hb : PE X b tb) (hsl : ∀ (o : Value) (i : Value), subscripted b true o i = runValue (.builtin "lifetime.subscript" ⟨[o, i], []⟩) := by intro o i; with_unfolding_all rfl) :
    PE X (.Subscript e b pos) (tOp (rItemOwn C (spItem C) E0) te tb) :=
  let ⟨_, h1, h2, h3, h4⟩ := T.item
  pe_itemOwn h1 h2 h3 h4 hr L2.pass0 ha hb hsl
theorem call_lenN (T : OpsT X.prog X.w X.K X.mg X.base C CO) (hr : Room 2 X.A) : CallR X (.builtin "len") (rLenOwn C (spLen C) E0) :=
  let ⟨_, h1, h2, h3⟩ := T.len
  call_lenOwn h1 h2 h3 hr L2.pass0
theorem op_eqN (T : OpsT X.prog X.w X.K X.mg X.base C CO) (hr : Room 1 X.A) : OpR X (compareOp .Eq) (rEqOwn C (spEq C) E0) :=
  let ⟨_, h1, h2, h3⟩ := T.eq
  op_eqOwn h1 h2 h3 hr L2.pass0
theorem op_neN' (T : OpsT X.prog X.w X.K X.mg X.base C CO) (hr : Room 2 X.A) : OpR X (compareOp .NotEq) (rNeOwn C (spEq C) E0) :=
  let ⟨_, h1, h2, h3⟩ := T.eq
  op_neOwn T.ne T.sub h1 h2 h3 hr L2.pass0
end
theorem chI_mem {xs ys : List Int} {n : Int} (h : n ∈ chI xs ys) : ∃ i : Nat, n = (i : Int) ∧ i ∈ chgs xs ys := by
  obtain ⟨i, hi, rfl⟩ := List.mem_map.mp h
  exact ⟨i, rfl, hi⟩
theorem chI_len (xs ys : List Int) : (chI xs ys).length ≤ xs.length := by
  unfold chI
  rw [List.length_map]
  exact chgs_len
theorem chI_small {v u : Int} {bs : List Int} (ok : OkB bs) : Small10 (chI (digs v bs) (digs u bs)) := by
  have hl := ok.few
  refine ⟨?_, fun n hn => ?_⟩
  · have := chI_len (digs v bs) (digs u bs)
    rw [digs_len] at this
    omega
  · obtain ⟨i, rfl, hi⟩ := chI_mem hn
    have := chgs_lt hi
    rw [digs_len] at this
    omega
theorem Small10.rev {ns : List Int} (h : Small10 ns) : Small10 ns.reverse := ⟨by rw [List.length_reverse]; exact h.1, fun n hn => h.2 n (List.mem_reverse.mp hn)⟩
theorem getD_get {xs : List Int} {i : Nat} (h : i < xs.length) : xs[i]? = some (xs.getD i 0) := by
  rw [List.getD_eq_getElem?_getD, List.getElem?_eq_getElem h]
  rfl
theorem rep_ints (n : Nat) : (List.replicate n [V.int 0]).flatten = (List.replicate n (0 : Int)).map V.int := by
  induction n with
  | zero => rfl
  | succ n ih =>
    rw [List.replicate_succ, List.flatten_cons, ih]
    rfl
def spStep (C : Addr) : Sp := fun vs H Q _ => ∃ p q bs v, vs = [.ref p, .ref q] ∧ NumAt C H p bs v ∧ NumAt C H q bs (v + 1) ∧ ∀ H', Same H H' → Q (.bl true) H'
section
variable {P : Program} {w : World} {K : PySem.W.Frag} {mg : Str → Option Value} {base : Heap} {C CO : Addr}
theorem scSt : FnScope ["_law_one", "_law_behind", "_law_places", "_law_due", "_law_at"] ["_law_one", "_law_behind"] (defScope sStep) := ⟨rfl, rfl, rfl, by decide +kernel, rfl, by decide +kernel, by decide +kernel⟩
theorem ok_step {f : Addr} {fd : FuncData} (F : Fun K "_law_step_right" "_law_step_right" sStep f fd) (bF : Binds K fd ["_law_one", "_law_behind"] []) (B : Bi mg) (T : NTy K mg C) (O : OpsT P w K mg base C CO) (cC : CallF P w K mg base (L2.CX P w) 8 "carry" (spCarry C CO)) (mC : MethF P w K mg base C CX0 3 "changed" (spChanged C)) :
    FnG P w K mg base 9 f (spStep C) := by
  refine okG F scSt bF (fun vs H Q h => ?_) (fun cdv A outer s H vs Q hr hgd h => ?_)
  · obtain ⟨p, q, bs, v, rfl, _⟩ := h
    rfl
  · obtain ⟨p, q, bs, v, rfl, hp, hq, k⟩ := h
    obtain ⟨fC, FC, MC⟩ := mC
    have hr7 : Room 7 _ := hr.mono (by decide)
    have hr3 : Room 3 _ := hr.mono (by decide)
    have hr2 : Room 2 _ := hr.mono (by decide)
    have hr1 : Room 1 _ := hr.mono (by decide)
    have hu : (A.deeper (envOfC "_law_step_right" (defScope sStep) s.heap.objs.size f cdv)).units + 64 < cLine := by have := hr.un; omega
    have hgd' : (A.deeper (envOfC "_law_step_right" (defScope sStep) s.heap.objs.size f cdv)).guards = some [] := hgd
    obtain ⟨dx, dt, bt, i1, i2, i3, ok, v0, v1⟩ := id hp
    obtain ⟨dy, et, ct, j1, j2, j3, _, u0, u1⟩ := id hq
    refine ⟨_, pss_cons (ps_set (i := 2) scSt.nd rfl (Or.inl rfl) (pe_cf cC hr passL (by exact (pa_cons (pv 0) pa_nil))))
      (pss_cons (ps_setLc (i := 3) (own := [("_law_at", 4)]) (g := gName 4) (tt := tTest (tOp rNeI (tOp (rItemOwn C (spItem C) E0) (tVar 0) (tVar 4)) (tOp (rItemOwn C (spItem C) E0) (tVar 1) (tVar 4)))) rfl scSt.nd rfl rfl (sw_true rfl rfl rfl (by decide +kernel))
        (pi_range1 rfl B.range (pa_cons (pe_callB (call_lenN O hr2) (by rfl) B.len bt_len (pa_cons (pv 0) pa_nil)) pa_nil))
        (blkOk_by (N := ["_law_one", "_law_behind", "_law_places", "_law_due", "_law_at"]) (sc := defScope sStep) (by decide +kernel)) (fun _ _ _ _ _ => pg_name (i := 4) scSt.nd rfl (Or.inl rfl))
        (fun _ _ _ _ _ => pts_one (pt_cmpR op_neI (pe_item O hr3 (pv 0) (pv 4)) (pe_item O hr3 (pv 1) (pv 4)) (nomark _))) (fun _ _ _ _ _ => pv 4))
      (pss_cons (ps_if (PW.pt (pw_or (pt_cmpR op_neS (pe_callB (call_reprI hgd' hu) (by rfl) B.repr bt_repr (pa_cons (pv 2) pa_nil)) (pe_callB (call_reprI hgd' hu) (by rfl) B.repr bt_repr (pa_cons (pe_revL (pv 3)) pa_nil)) (nomark _))
          (pw_or1 (pt_cmpR op_neS (pe_callB (call_reprI hgd' hu) (by rfl) B.repr bt_repr (pa_cons (pe_methR (pv 0) T.cl MC FC hr3 L2.pass0 (by exact (pa_cons (pv 1) pa_nil))) pa_nil)) (pe_callB (call_reprI hgd' hu) (by rfl) B.repr bt_repr (pa_cons (pv 3) pa_nil)) (nomark _))))) (pss_one (ps_ret pe_bl)) pss_nil)
      (pss_cons (ps_if (pt_cmpR (op_neL hu) (pe_lc (own := [("_law_at", 4)]) (g := gName 4) (tt := tYes) (te := tOp (rItemOwn C (spItem C) E0) (tVar 1) (tVar 4)) rfl scSt.nd (pi_seqI (pe_tail (pv 3)))
          (blkOk_by (N := ["_law_one", "_law_behind", "_law_places", "_law_due", "_law_at"]) (sc := defScope sStep) (by decide +kernel)) (fun _ _ _ _ _ => pg_name (i := 4) scSt.nd rfl (Or.inl rfl)) (fun _ _ _ _ _ => pts_nil) (fun _ _ _ _ _ => pe_item O hr3 (pv 1) (pv 4)))
          (pe_op op_rep (pe_lst (pa_cons pe_int pa_nil)) (pe_op op_sub (pe_callB call_lenI (by rfl) B.len bt_len (pa_cons (pv 3) pa_nil)) pe_int)) (nomark _)) (pss_one (ps_ret pe_bl)) pss_nil)
      (pss_cons (ps_expr (pe_bm0 PySem.F.plainAttrs_list PySem.F.slot_list_clear PySem.F.type_list_clear mt_clear (pv 2)))
      (pss_cons (ps_if (pt_cmpR op_neS (pe_callB (call_reprI hgd' hu) (by rfl) B.repr bt_repr (pa_cons (pe_cf cC hr passL (by exact (pa_cons (pv 0) pa_nil))) pa_nil)) (pe_callB (call_reprI hgd' hu) (by rfl) B.repr bt_repr (pa_cons (pe_revL (pv 3)) pa_nil)) (nomark _)) (pss_one (ps_ret pe_bl)) pss_nil)
      (pss_one (ps_ret (pe_and (pe_cmpR op_eqI (pe_item O hr3 (pv 1) (pe_ix ix_I (pv 3) pe_int (fun _ _ => rfl))) (pe_op op_add (pe_item O hr3 (pv 0) (pe_ix ix_I (pv 3) pe_int (fun _ _ => rfl))) pe_int) (nomark _))
        (pe_one (pe_cmpR (op_eqN O hr1) (pe_op (op_numAdd O.add hr7 passL) (pv 0) pe_int) (pv 1) (nomark _))))))))))), ?_⟩
    obtain ⟨h0, tl, ech, eh, etl⟩ := carry_at ok v0 u1
    obtain ⟨cs, ecs⟩ : ∃ cs, cs = chI (digs v bs) (digs (v + 1) bs) := ⟨_, rfl⟩
    have ecs2 : cs = (h0 : Int) :: tl.map fun j => ((j : Nat) : Int) := by
      rw [ecs]
      unfold chI
      rw [ech]
      rfl
    have sm : Small10 cs := by rw [ecs]; exact chI_small ok
    have few := ok.few
    have csl : cs.length ≤ 4 := by
      have := chI_len (digs v bs) (digs (v + 1) bs)
      rw [digs_len] at this
      rw [ecs]
      omega
    have hin : ∀ j ∈ h0 :: tl, j < bs.length := fun j hj => by
      have := chgs_lt (xs := digs v bs) (ys := digs (v + 1) bs) (by rw [ech]; exact hj)
      rw [digs_len] at this
      exact this
    have at1 : ∀ j ∈ h0 :: tl, (digs v bs)[j]? = some ((digs v bs).getD j 0) := fun j hj => getD_get (by rw [digs_len]; exact hin j hj)
    have at2 : ∀ j ∈ h0 :: tl, (digs (v + 1) bs)[j]? = some ((digs (v + 1) bs).getD j 0) := fun j hj => getD_get (by rw [digs_len]; exact hin j hj)
    have revm : ∀ xs : List Int, (xs.map V.int).reverse = xs.reverse.map V.int := fun xs => by rw [List.map_reverse]
    refine ⟨_, rfl, p, bs, v, rfl, hp, fun _ H1 r1 S1 nr1 hR1 => ?_, fun z => (z u1).elim⟩
    rw [← ecs] at hR1
    refine ⟨_, rfl, p, dx, _, rfl, S1 _ _ i1, p, bs, v, rfl, hp.same S1, _, rfl, by omega, by omega, _, rfl, by omega, by omega, fun D hD => ?_⟩
    have e0 : ((bs.length : Nat) : Int).toNat = bs.length := Int.toNat_natCast _
    have hDH : H D = none := S1.free hD
    have nDr : D ≠ r1 := (ne_of_none hR1 hD).symm
    refine lc_it (walk_range (lo := 0) (n := ((bs.length : Nat) : Int).toNat)) (fun i H' => Same H1 H' ∧ H' D = some (.lst ((((List.range i).filter fun j => !decide ((digs v bs).getD j 0 = (digs (v + 1) bs).getD j 0)).map fun (j : Nat) => (j : Int)).map V.int)))
      ⟨same_lay hD, upd_same⟩ (fun _ _ _ _ => trivial) ?_ ?_
    · rintro i x H' _ hi ⟨S, hL⟩ ⟨rfl, ex⟩
      rw [e0] at hi
      obtain rfl : x = V.int (i : Int) := ex.trans (congrArg V.int (Int.zero_add _))
      have hdg := getD_get (xs := digs v bs) (i := i) (by rw [digs_len]; exact hi)
      have heg := getD_get (xs := digs (v + 1) bs) (i := i) (by rw [digs_len]; exact hi)
      have S2 := S1.trans S
      have st := chg_step hdg heg
      have hlen : ((List.range i).filter fun j => !decide ((digs v bs).getD j 0 = (digs (v + 1) bs).getD j 0)).length ≤ i := by
        have := List.length_filter_le (fun j => !decide ((digs v bs).getD j 0 = (digs (v + 1) bs).getD j 0)) (List.range i)
        simpa using this
      refine ⟨rfl, _, rfl, _, rfl, p, dx, _, rfl, S2 _ _ i1, p, bs, v, i, _, rfl, hp.same S2, hdg, ?_⟩
      refine ⟨_, rfl, _, rfl, q, dy, _, rfl, S2 _ _ j1, q, bs, v + 1, i, _, rfl, hq.same S2, heg, _, _, rfl, rfl, _, rfl, ?_⟩
      by_cases c : (digs v bs).getD i 0 = (digs (v + 1) bs).getD i 0
      · rw [decide_eq_true c]
        refine iteF ⟨S, ?_⟩
        rw [st, if_pos c, List.append_nil]
        exact hL
      · rw [decide_eq_false c]
        refine iteT ?_
        refine ⟨_, rfl, _, hL, by rw [List.length_map, List.length_map]; exact small1000 (by omega), same_put S hD, ?_⟩
        rw [st, if_neg c, upd_same, List.map_append, List.map_append]
        rfl
    · rintro H2 ⟨S12, hL⟩
      have hD2 : H2 D = some (.lst (cs.map V.int)) := by
        rw [hL, ecs]
        unfold chI chgs
        rw [digs_len, e0]
      have S2 := S1.trans S12
      have hR2 := S12 _ _ hR1
      refine ⟨_, rfl, r1, cs.reverse, rfl, hR2, sm.rev, _, rfl, D, _, rfl, SqL.of hD2, fun t ht => ⟨t, cs.reverse, rfl, by rw [upd_same, revm], sm.rev, _, rfl, rfl, false, rfl, ?_⟩⟩
      refine iteF ?_
      have S3 := same_new (o := .lst (cs.map V.int).reverse) S2 ht
      have D3 : Same H2 (upd H2 t (.lst (cs.map V.int).reverse)) := same_lay ht
      refine ⟨_, rfl, p, dx, _, rfl, S3 _ _ i1, nf_no _ _ _ (by decide +kernel) (by decide +kernel) (by decide +kernel), _, rfl, p, q, bs, v, v + 1, rfl, hp.same S3, hq.same S3, fun H4 r4 S4' _ hR4 => ?_⟩
      rw [← ecs] at hR4
      have D4 := D3.trans S4'
      have S4 := S3.trans S4'
      refine ⟨r4, cs, rfl, hR4, sm, _, rfl, D, cs, rfl, D4 _ _ hD2, sm, _, rfl, rfl, false, rfl, ?_⟩
      refine iteF ?_
      refine ⟨_, rfl, D, cs, rfl, D4 _ _ hD2, fun t2 ht2 => ⟨t2, cs.drop 1, rfl, .inl upd_same, fun J wk D5 hD5 => ?_⟩⟩
      have D4b := D4.trans (same_lay (o := .lst ((cs.drop 1).map V.int)) ht2)
      have edr : cs.drop 1 = tl.map fun j => ((j : Nat) : Int) := by rw [ecs2]; rfl
      have ell : (cs.drop 1).length = tl.length := by rw [edr, List.length_map]
      have S4b := S4.trans (same_lay (o := .lst ((cs.drop 1).map V.int)) ht2)
      refine lc_it wk (fun i H' => Same (upd H4 t2 (.lst ((cs.drop 1).map V.int))) H' ∧ H' D5 = some (.lst ((List.replicate i (0 : Int)).map V.int))) ⟨same_lay hD5, upd_same⟩ (fun i H' _ R => same_eq R.1 upd_same) ?_ ?_
      · rintro i x H' _ hi ⟨S, hL5⟩ ⟨rfl, hx⟩
        obtain ⟨n, rfl, hn⟩ := map_get hx
        rw [edr, List.getElem?_map] at hn
        obtain ⟨j, hj, rfl⟩ : ∃ j, tl[i]? = some j ∧ ((j : Nat) : Int) = n := by
          cases e : tl[i]? with
          | none => rw [e] at hn; cases hn
          | some j => rw [e] at hn; exact ⟨j, rfl, Option.some.inj hn⟩
        have hjm := List.mem_of_getElem? hj
        have hdl : (cs.drop 1).length ≤ cs.length := by rw [List.length_drop]; omega
        have SS := S4b.trans S
        have a2 := at2 j (List.mem_cons_of_mem _ hjm)
        rw [etl j hjm] at a2
        refine ⟨rfl, ?_⟩
        refine ⟨_, rfl, _, rfl, q, dy, _, rfl, SS _ _ j1, q, bs, v + 1, j, 0, rfl, hq.same SS, a2, _, hL5, by rw [List.length_map, List.length_replicate]; exact small1000 (by omega), same_put S hD5, ?_⟩
        rw [upd_same, List.replicate_succ', List.map_append]
        rfl
      · rintro H5 ⟨S5', hL5⟩
        have D5' := D4b.trans S5'
        have S5 := S4b.trans S5'
        refine ⟨by show 1 ≤ sizeLine; decide, fun m hm => ?_⟩
        have D6 := D5'.trans (same_lay (o := .lst [.int 0]) hm)
        refine ⟨_, rfl, D, cs, rfl, .inl (D6 _ _ hD2), _, _, rfl, rfl, m, _, _, rfl, rfl, upd_same, by omega, by omega, ?_, fun m2 hm2 => ?_⟩
        · have z : ((cs.length : Nat) : Int) - 1 ≤ 4 := by omega
          show 1 * (((cs.length : Nat) : Int) - 1).toNat ≤ sizeLine
          exact Nat.le_trans (show _ ≤ 4 by omega) (by decide)
        · have ek : (((cs.length : Nat) : Int) - 1).toNat = tl.length := by
            rw [ecs2, List.length_cons, List.length_map]
            omega
          have hL6 : upd (upd H5 m (.lst [.int 0])) m2 (.lst (List.replicate (((cs.length : Nat) : Int) - 1).toNat [V.int 0]).flatten) D5 = some (.lst ((List.replicate tl.length (0 : Int)).map V.int)) := by
            have z1 : upd H5 m (.lst [.int 0]) D5 = some (.lst ((List.replicate (cs.drop 1).length (0 : Int)).map V.int)) := (upd_ne (ne_of_none hL5 hm)).trans hL5
            rw [upd_ne (ne_of_none z1 hm2), z1, ell]
          refine ⟨D5, m2, List.replicate tl.length 0, List.replicate tl.length 0, rfl, rfl, hL6, by rw [upd_same, ek, rep_ints], false, by simp, ?_⟩
          refine iteF ?_
          have D7 := D6.trans (same_lay (o := .lst (List.replicate (((cs.length : Nat) : Int) - 1).toNat [V.int 0]).flatten) hm2)
          have S7 := S2.trans D7
          have hR7 := D7 _ _ hR2
          revert hL6 D7 S7 hR7
          generalize upd (upd H5 m (.lst [.int 0])) m2 (.lst (List.replicate (((cs.length : Nat) : Int) - 1).toNat [V.int 0]).flatten) = H7
          intro hL6 D7 S7 hR7
          refine ⟨_, rfl, .inl ⟨rfl, _, SqL.of hR7⟩, r1, _, rfl, rfl, hR7, ?_⟩
          have S8 := same_put (o := .lst []) S7 nr1
          have hD8 : upd H7 r1 (.lst []) D = some (.lst (cs.map V.int)) := by
            rw [upd_ne nDr]
            exact D7 _ _ hD2
          revert S8 hD8
          generalize upd H7 r1 (.lst []) = H8
          intro S8 hD8
          refine ⟨_, rfl, p, bs, v, rfl, hp.same S8, fun _ H9 r9 S9' _ hR9 => ?_, fun z => (z u1).elim⟩
          rw [← ecs] at hR9
          have hD9 := S9' _ _ hD8
          have S9 := S8.trans S9'
          refine ⟨r9, cs.reverse, rfl, hR9, sm.rev, _, rfl, D, _, rfl, SqL.of hD9, fun t3 ht3 => ⟨t3, cs.reverse, rfl, by rw [upd_same, revm], sm.rev, _, rfl, rfl, false, rfl, ?_⟩⟩
          refine iteF ?_
          have S10 := same_new (o := .lst (cs.map V.int).reverse) S9 ht3
          have hD10 : Sq (upd H9 t3 (.lst (cs.map V.int).reverse)) D cs := .inl ((same_lay (o := .lst (cs.map V.int).reverse) ht3) _ _ hD9)
          have ec0 : cs[0]? = some (h0 : Int) := by rw [ecs2]; rfl
          refine ⟨_, rfl, _, rfl, D, cs, 0, _, rfl, rfl, hD10, ec0, q, dy, _, rfl, S10 _ _ j1, q, bs, v + 1, h0, _, rfl, hq.same S10, at2 h0 List.mem_cons_self, ?_⟩
          refine ⟨_, rfl, _, rfl, D, cs, 0, _, rfl, rfl, hD10, ec0, p, dx, _, rfl, S10 _ _ i1, p, bs, v, h0, _, rfl, hp.same S10, at1 h0 List.mem_cons_self, _, _, rfl, rfl, _, _, rfl, rfl, _, rfl, ?_⟩
          rw [eh, decide_eq_true rfl]
          refine iteT ?_
          refine ⟨_, rfl, p, dx, _, 1, rfl, rfl, S10 _ _ i1, p, bs, v, 1, rfl, hp.same S10, fun _ H11 r11 S11' _ hN => ?_, fun z => (z ⟨by omega, u1⟩).elim⟩
          have S11 := S10.trans S11'
          obtain ⟨dz, zt, zb, z1, _⟩ := id hN
          refine ⟨_, rfl, r11, dz, _, q, dy, _, rfl, rfl, z1, S11 _ _ j1, r11, q, bs, bs, v + 1, v + 1, rfl, hN, hq.same S11, fun H12 S12' => ?_⟩
          rw [decide_eq_true ⟨rfl, rfl⟩]
          exact k _ (S11.trans S12')
end
end K7

/-! _law_row_right. -/
namespace K7
open PySem PySem.Spec PyProof.Rows L2 StX
theorem ixN_nat {n j : Nat} (h : j < n) : ixN n (j : Int) = some j := by
  unfold ixN
  rw [if_pos (by omega), if_pos (by omega)]
  simp
/-- the rows that are looked at -/
def RowsAt (C : Addr) (H : Hp) (r : Addr) (bs : List Int) (v : Int) (out : List V) : Prop := H r = some (.lst out) ∧ ∀ i, i < out.length → ∃ x, out[i]? = some (.ref x) ∧ NumAt C H x bs (v + (i : Nat))
def spRow (C : Addr) : Sp := fun vs H Q _ => ∃ r a v bs out, vs = [.ref r, .ref a, .int v] ∧ RowsAt C H r bs v out ∧ H a = some (.lst (bs.map V.int)) ∧ OkB bs ∧ 0 ≤ v ∧ 1 ≤ out.length ∧ out.length ≤ 100 ∧ ∀ H', Same H H' → Q (.bl true) H'
section
variable {P : Program} {w : World} {K : PySem.W.Frag} {mg : Str → Option Value} {base : Heap} {C CO : Addr}
theorem scRw : FnScope ["_law_rows", "_law_bases_here", "_law_low_here", "_law_changes", "_law_at", "_law_numeral", "_law_place", "_law_high", "_law_weight"] ["_law_rows", "_law_bases_here", "_law_low_here"] (defScope sRow) := ⟨rfl, rfl, rfl, by decide +kernel, rfl, by decide +kernel, by decide +kernel⟩
theorem ok_row {f : Addr} {fd : FuncData} (F : Fun K "_law_row_right" "_law_row_right" sRow f fd) (bF : Binds K fd ["_law_rows", "_law_bases_here", "_law_low_here"] []) (B : Bi mg) (T : NTy K mg C) (cC : CallF P w K mg base (L2.CX P w) 8 "carry" (spCarry C CO)) (cS : CallG P w K mg base 9 "_law_step_right" (spStep C))
    (cW : CallF P w K mg base CX0 4 "weights" spWeights) : FnG P w K mg base 10 f (spRow C) := by
  refine okG F scRw bF (fun vs H Q h => ?_) (fun cdv A outer s H vs Q hr hgd h => ?_)
  · obtain ⟨r, a, v, bs, out, rfl, _⟩ := h
    rfl
  · obtain ⟨r, a, v, bs, out, rfl, ⟨hR, hrows⟩, hA, ok, v0, o1, o2, k⟩ := h
    have hr8 : Room 8 _ := hr.mono (by decide)
    have hr4 : Room 4 _ := hr.mono (by decide)
    have hu : (A.deeper (envOfC "_law_row_right" (defScope sRow) s.heap.objs.size f cdv)).units + 64 < cLine := by have := hr.un; omega
    have hgd' : (A.deeper (envOfC "_law_row_right" (defScope sRow) s.heap.objs.size f cdv)).guards = some [] := hgd
    refine ⟨_, pss_cons (ps_set (i := 3) scRw.nd rfl (Or.inl rfl) (pe_op op_rep (pe_lst (pa_cons pe_int pa_nil)) (pe_callB call_lenI (by rfl) B.len bt_len (pa_cons (pv 1) pa_nil))))
      (pss_cons (ps_for PassesOwn.never rfl (pi_enum rfl B.enumerate (pa_cons (pv 0) pa_nil)) (pg_tup rfl (pgs_cons (pg_name (i := 4) scRw.nd rfl (Or.inl rfl)) (pgs_cons (pg_name (i := 5) scRw.nd rfl (Or.inl rfl)) pgs_nil)))
        (pss_cons (ps_if (PW.pt (pw_or (pt_cmpR op_neN (pe_fld (pv 5) rfl) (pe_op op_add (pv 2) (pv 4)) (nomark _)) (pw_or1 (pt_cmpR (op_neTI hu) (pe_fld (pv 5) rfl) (pe_callTy call_tuple_of (by rfl) B.tuple bt_tuple (pa_cons (pv 1) pa_nil)) (nomark _))))) (pss_one (ps_ret pe_bl)) pss_nil)
        (pss_cut (ps_if (PW.pt (pw_and (pt_cmpR op_gt (pv 4) pe_int (nomark _)) (pw_and1 (pt_not (pt_val (pe_cg cS hr hgd' (by exact (pa_cons (pe_ix ix_V (pv 0) (pe_op op_sub (pv 4) pe_int) (fun _ _ => rfl)) (pa_cons (pv 5) pa_nil))))))))) (pss_one (ps_ret pe_bl)) pss_nil)
        (pss_one (ps_if (pt_cmpR op_gt (pv 4) pe_int (nomark _))
          (pss_one (ps_for PassesOwn.never rfl (pi_seqI (pe_cf cC hr8 passL (by exact (pa_cons (pe_ix ix_V (pv 0) (pe_op op_sub (pv 4) pe_int) (fun _ _ => rfl)) pa_nil)))) (pg_name (i := 6) scRw.nd rfl (Or.inl rfl))
            (pss_one (ps_asg (pe_op op_add (pe_ix ix_I (pv 3) (pv 6) (fun _ _ => rfl)) pe_int) (pg_sub (pv 3) (pv 6) set_list))))) pss_nil)))))
      (pss_cons (ps_set (i := 7) scRw.nd rfl (Or.inr rfl) (pe_op op_sub (pe_op op_add (pv 2) (pe_callB call_len_seq (by rfl) B.len bt_len (pa_cons (pv 0) pa_nil))) pe_int))
      (pss_one (ps_ret (pe_cmpR (op_eqL hu) (pv 3) (pe_lc (own := [("_law_weight", 8)]) (g := gName 8) (tt := tYes) rfl scRw.nd (pi_seqI (pe_cf cW hr4 L2.pass0 (by exact (pa_cons (pv 1) pa_nil))))
        (blkOk_by (N := ["_law_rows", "_law_bases_here", "_law_low_here", "_law_changes", "_law_at", "_law_numeral", "_law_place", "_law_high", "_law_weight"]) (sc := defScope sRow) (by decide +kernel)) (fun _ _ _ _ _ => pg_name (i := 8) scRw.nd rfl (Or.inl rfl)) (fun _ _ _ _ _ => pts_nil)
        (fun _ _ _ _ _ => pe_op op_sub (pe_op op_divP (pv 7) (pv 8)) (pe_op op_divP (pv 2) (pv 8)))) (nomark _)))))), ?_⟩
    have few := ok.few
    have e0 : ((bs.length : Nat) : Int).toNat = bs.length := Int.toNat_natCast _
    refine ⟨by show 1 ≤ sizeLine; decide, fun m hm => ?_⟩
    refine ⟨_, rfl, a, bs, rfl, .inl ((same_lay (o := .lst [.int 0]) hm) _ _ hA), m, _, _, rfl, rfl, upd_same, by omega, by omega, ?_, fun D hD => ?_⟩
    · show 1 * ((bs.length : Nat) : Int).toNat ≤ sizeLine
      exact Nat.le_trans (show _ ≤ 4 by omega) (by decide)
    have hDH : H D = none := (same_lay (o := .lst [.int 0]) hm).free hD
    have S1 : Same H (upd (upd H m (.lst [.int 0])) D (.lst (List.replicate ((bs.length : Nat) : Int).toNat [V.int 0]).flatten)) := same_new (same_lay hm) hD
    have hD1 : upd (upd H m (.lst [.int 0])) D (.lst (List.replicate ((bs.length : Nat) : Int).toNat [V.int 0]).flatten) D = some (.lst ((CH bs v 0).map V.int)) := by
      rw [upd_same, e0, rep_ints, CH_zero]
    revert S1 hD1
    generalize upd (upd H m (.lst [.int 0])) D (.lst (List.replicate ((bs.length : Nat) : Int).toNat [V.int 0]).flatten) = H1
    intro S1 hD1
    refine ⟨_, rfl, r, out, rfl, SqL.of (S1 _ _ hR), ?_⟩
    refine for_it (walk_enum (K := K) (a := r) (xs := out)) (fun i σ H' => ∃ x4 x5 x6, σ = [some (.ref r), some (.ref a), some (.int v), some (.ref D), x4, x5, x6, none, none] ∧ Same H H' ∧ H' D = some (.lst ((CH bs v (i - 1)).map V.int)))
      ⟨none, none, none, rfl, S1, hD1⟩ ?_ ?_ ?_
    · rintro i σ H' _ ⟨_, _, _, _, S', _⟩
      exact SqL.of (S' _ _ hR)
    · rintro i x σ H' H2 hi ⟨x4, x5, x6, rfl, S', hDl⟩ ⟨TT, y1, y2, rfl, hT, rfl, e1, e2⟩
      obtain ⟨xa, hxa, hN⟩ := hrows i hi
      cases Option.some.inj e1
      have e2' : out[i]? = some y2 := e2
      rw [hxa] at e2'
      cases Option.some.inj e2'
      have S2 := same_new (o := .tup [.int (i : Nat), .ref xa]) S' hT
      have hD2 : upd H' TT (.tup [.int (i : Nat), .ref xa]) D = some (.lst ((CH bs v (i - 1)).map V.int)) := (upd_ne (ne_of_none hDl hT)).trans hDl
      refine ⟨TT, _, rfl, SqT.of upd_same, rfl, _, _, rfl, _, _, rfl, rfl, ?_⟩
      revert S2 hD2
      generalize upd H' TT (.tup [.int (i : Nat), .ref xa]) = H3
      intro S2 hD2
      have hN3 := hN.same S2
      obtain ⟨dx, dt, bt, n1, n2, n3, _, _, hvn⟩ := id hN3
      refine ⟨_, rfl, xa, C, dx, _, _, rfl, n1, T.cl, T.nV, nf_value _ _ _, _, rfl, _, rfl, _, _, rfl, rfl, _, rfl, rfl, false, rfl, ?_⟩
      refine iteF ?_
      refine ⟨_, rfl, xa, C, dx, _, _, rfl, n1, T.cl, T.nB, nf_bases _ _ _, _, rfl, a, _, rfl, .inl ⟨SqL.of (S2 _ _ hA), fun t ht => ?_⟩⟩
      have S4 := same_new (o := .tup (bs.map V.int)) S2 ht
      have hD4 : upd H3 t (.tup (bs.map V.int)) D = some (.lst ((CH bs v (i - 1)).map V.int)) := (upd_ne (ne_of_none hD2 ht)).trans hD2
      refine ⟨bt, t, bs, bs, rfl, rfl, (same_lay (o := .tup (bs.map V.int)) ht) _ _ n3, upd_same, false, by simp, ?_⟩
      refine iteF ?_
      revert S4 hD4
      generalize upd H3 t (.tup (bs.map V.int)) = H4
      intro S4 hD4
      have prev : 0 < (i : Int) → ∃ y, out[i - 1]? = some (.ref y) ∧ NumAt C H y bs (v + ((i - 1 : Nat) : Int)) := fun c => hrows (i - 1) (by omega)
      have ev : ∀ c : 0 < (i : Int), v + ((i - 1 : Nat) : Int) + 1 = v + (i : Int) := fun c => by omega
      refine ⟨fun σ' H5 => σ' = [some (.ref r), some (.ref a), some (.int v), some (.ref D), some (.int (i : Nat)), some (.ref xa), x6, none, none] ∧ Same H H5 ∧ H5 D = some (.lst ((CH bs v (i - 1)).map V.int)), ?_, ?_⟩
      · refine ⟨_, rfl, _, _, rfl, rfl, _, rfl, ?_⟩
        by_cases c : 0 < (i : Int)
        · rw [decide_eq_true c]
          refine iteT ?_
          obtain ⟨y, hy, hNy⟩ := prev c
          refine ⟨_, rfl, _, rfl, _, _, rfl, rfl, r, out, i - 1, _, rfl, congrArg V.int (by omega), S4 _ _ hR, hy, _, rfl, y, xa, bs, _, rfl, hNy.same S4, by rw [ev c]; exact hN.same S4, fun H5 S5 => ⟨true, rfl, ?_⟩⟩
          exact iteF ⟨rfl, S4.trans S5, S5 _ _ hD4⟩
        · rw [decide_eq_false c]
          exact iteF (iteF ⟨rfl, S4, hD4⟩)
      · rintro _ H5 ⟨rfl, S5, hD5⟩
        refine ⟨_, rfl, _, _, rfl, rfl, _, rfl, ?_⟩
        by_cases c : 0 < (i : Int)
        · rw [decide_eq_true c]
          refine iteT ?_
          obtain ⟨y, hy, hNy⟩ := prev c
          refine ⟨_, rfl, _, rfl, _, _, rfl, rfl, r, out, i - 1, _, rfl, congrArg V.int (by omega), S5 _ _ hR, hy, y, bs, _, rfl, hNy.same S5, fun _ H6 l S6 nl hl => ?_, fun z => (z (by rw [ev c]; exact hvn)).elim⟩
          have hD6 := S6 _ _ hD5
          have nDl : D ≠ l := ne_of_none hD5 nl
          obtain ⟨js, hjs⟩ : ∃ js, js = (chgs (digs (v + ((i - 1 : Nat) : Int)) bs) (digs (v + ((i - 1 : Nat) : Int) + 1) bs)).reverse := ⟨_, rfl⟩
          have ech : (chI (digs (v + ((i - 1 : Nat) : Int)) bs) (digs (v + ((i - 1 : Nat) : Int) + 1) bs)).reverse = js.map fun j => ((j : Nat) : Int) := by
            rw [hjs]
            unfold chI
            rw [List.map_reverse]
          rw [ech] at hl
          have jlt : ∀ j ∈ js, j < bs.length := fun j hj => by
            rw [hjs] at hj
            have := chgs_lt (List.mem_reverse.mp hj)
            rw [digs_len] at this
            exact this
          refine ⟨l, js.map fun j => ((j : Nat) : Int), rfl, .inl hl, fun J wk => ?_⟩
          refine for_it wk (fun kk σ H7 => ∃ z6, σ = [some (.ref r), some (.ref a), some (.int v), some (.ref D), some (.int (i : Nat)), some (.ref xa), z6, none, none] ∧ Same H H7 ∧ H7 D = some (.lst ((bump (CH bs v (i - 1)) (js.take kk)).map V.int)) ∧ H7 l = H6 l)
            ⟨x6, rfl, S5.trans S6, hD6, rfl⟩ ?_ ?_ ?_
          · rintro kk σ H7 _ ⟨_, _, _, _, e⟩
            exact e
          · rintro kk x σ H7 _ hkk ⟨z6, rfl, S7, hD7, hl7⟩ ⟨rfl, hx⟩
            obtain ⟨n, rfl, hn⟩ := map_get hx
            rw [List.getElem?_map] at hn
            obtain ⟨j, hj, rfl⟩ : ∃ j, js[kk]? = some j ∧ ((j : Nat) : Int) = n := by
              cases e : js[kk]? with
              | none => rw [e] at hn; cases hn
              | some j => rw [e] at hn; exact ⟨j, rfl, Option.some.inj hn⟩
            have hjl := jlt j (List.mem_of_getElem? hj)
            have hbl : j < (bump (CH bs v (i - 1)) (js.take kk)).length := by rw [bump_len, CH_len]; exact hjl
            refine ⟨_, rfl, _, rfl, D, _, j, _, rfl, rfl, .inl hD7, getD_get hbl, _, _, rfl, rfl, _, rfl, _, rfl, D, _, _, j, rfl, rfl, hD7, ixN_nat (by rw [List.length_map]; exact hbl), ?_⟩
            refine ⟨_, rfl, same_put S7 hDH, ?_, by rw [upd_ne nDl.symm]; exact hl7⟩
            have etk : js.take (kk + 1) = js.take kk ++ [j] := by
              rw [List.take_add_one, hj]
              rfl
            rw [upd_same, etk, bump_snoc, List.map_set]
          · rintro σ H7 ⟨z6, rfl, S7, hD7, hl7⟩
            refine ⟨_, _, _, rfl, S7, ?_⟩
            rw [List.length_map, List.take_length, hjs, CH_step ok.two v0] at hD7
            rw [hD7]
            have : i - 1 + 1 = i + 1 - 1 := by omega
            rw [this]
        · rw [decide_eq_false c]
          refine iteF ⟨_, _, _, rfl, S5, ?_⟩
          have : i - 1 = i + 1 - 1 := by omega
          rw [← this]
          exact hD5
    · rintro σ H' ⟨x4, x5, x6, rfl, S', hDl⟩
      refine ⟨_, rfl, _, rfl, r, out, rfl, .inl (SqL.of (S' _ _ hR)), _, _, rfl, rfl, _, _, rfl, rfl, ?_⟩
      have hbd : ∀ w ∈ wts bs, 0 < w ∧ w < 1073741824 := fun w hw => by
        obtain ⟨w1, w2⟩ := wts_room ok.two hw
        have := ok.room
        omega
      refine ⟨_, rfl, _, rfl, a, bs, rfl, .inl (S' _ _ hA), ok, fun H8 wq S8 nwq hW => ⟨wq, wts bs, rfl, .inr hW, fun J wk E hE => ?_⟩⟩
      refine lc_it wk (fun i H9 => Same H8 H9 ∧ H9 E = some (.lst (((((wts bs).take i).map fun w => (v + ((out.length : Nat) : Int) - 1) / w - v / w)).map V.int))) ⟨same_lay hE, upd_same⟩ (fun i H9 _ R => same_eq R.1 hW) ?_ ?_
      · rintro i x H9 _ hi ⟨S9, hE9⟩ ⟨rfl, hx⟩
        obtain ⟨w, rfl, hw⟩ := map_get hx
        obtain ⟨b1, b2⟩ := hbd w (List.mem_of_getElem? hw)
        refine ⟨rfl, ?_⟩
        refine ⟨_, rfl, _, rfl, _, _, rfl, rfl, b1, b2, _, rfl, _, rfl, _, _, rfl, rfl, b1, b2, _, _, rfl, rfl, _, hE9, ?_, same_put S9 hE, ?_⟩
        · rw [List.length_map, List.length_map, List.length_take, wts_len]
          exact small1000 (by omega)
        · rw [upd_same, List.take_add_one, hw, List.map_append, List.map_append]
          rfl
      · rintro H9 ⟨S9, hE9⟩
        have ed : CH bs v (out.length - 1) = ((wts bs).take (wts bs).length).map fun w => (v + ((out.length : Nat) : Int) - 1) / w - v / w := by
          rw [List.take_length]
          unfold CH
          have : v + ((out.length - 1 : Nat) : Int) = v + ((out.length : Nat) : Int) - 1 := by omega
          rw [this]
        refine ⟨D, E, _, _, rfl, rfl, S9 _ _ (S8 _ _ hDl), hE9, ?_⟩
        have z : (false != decide (CH bs v (out.length - 1) = ((wts bs).take (wts bs).length).map fun w => (v + ((out.length : Nat) : Int) - 1) / w - v / w)) = true := by
          rw [decide_eq_true ed]
          rfl
        rw [z]
        exact k _ (S'.trans (S8.trans S9))
end
end K7

/-! law. -/
namespace K7
open PySem PySem.Spec PyProof.Rows L2 StX
theorem turned_ne {b0 c : Int} {t : List Int} (h : c ≠ b0) : b0 :: t ≠ t ++ [c] := fun e => by
  have z := congrArg List.sum e
  rw [List.sum_cons, List.sum_append, List.sum_cons, List.sum_nil] at z
  omega
structure OfT (P : Program) (w : World) (K : PySem.W.Frag) (mg : Str → Option Value) (base : Heap) (C : Addr) : Prop where
  fn : ∃ mc p g, ClX.CRead K C mc ∧ ClX.CMet K C mc "of" p g ∧ FnR P w K mg base CX0 6 g (spOf C)
def spOnce : Sp := fun vs H Q _ => ∃ (p q : Addr) (n : Nat), vs = [.ref p] ∧ PenAt H p q n ∧ n ≤ 800 ∧ ∀ H', Q (.bl true) H'
def spLaw (K : PySem.W.Frag) : Sp := fun vs H Q _ => ∃ (a : Addr) (ns : List Int), vs = [.ref a] ∧ SqL K H a (ns.map V.int) ∧ ∀ H', Q (.bl true) H'
section
variable {X : Cx} {C : Addr} {e : Expr} {es : List Expr} {t : TA} {p apos pos : Pos} {pl : Sem Bool}
theorem pe_of (O : OfT X.prog X.w X.K X.mg X.base C) (hm : X.mg "Numeral" = some (.ref C)) (hr : Room 6 X.A) (ha : PA X (e :: es) t) (hg : Gl X "Numeral" := by rfl)
    (hst : starEach (e :: es) X.env = (false, eval e X.env) :: starEach es X.env := by rfl) (hpl : (backTo pos (starEach es X.env)).any (·.1) = false := by rfl)
    (ht : eval (.Call (.Attribute (.Name "Numeral" p) "of" apos) (e :: es) [] pos) X.env = (do
      let ov ← eval (.Name "Numeral" p) X.env
      standAt apos.atName
      let (f, first) ← holding [ov] (getMethod ov "of" pl)
      callWith pos f first (backTo pos (starEach (e :: es) X.env)) (backToKw pos (keywordEach [] X.env))) := by rfl) :
    PE X (.Call (.Attribute (.Name "Numeral" p) "of" apos) (e :: es) [] pos) (ClX.tCMeth C (spOf C) E0 (tC (.ref C)) t) :=
  let ⟨_, _, _, r, c, F⟩ := O.fn
  ClX.pe_cmeth (pl := pl) (pe_glob (v := .ref C) hg hm rfl) r c F hr L2.pass0 ha hst hpl ht
theorem pe_rows {e2 : Expr} {CU : Addr} (G : FromT X.prog X.w X.K X.mg X.base C CU) (B : X.mg "list" = none) (hr : Room 10 X.A) (ha : PA X [e, e2] t) {p2 p3 : Pos} (hg : Gl X "list" := by rfl) (hg2 : Gl X "numerals_from" := by rfl)
    (he2 : starEach [.Call (.Name "numerals_from" p2) [e, e2] [] p3] X.env = (false, eval (.Call (.Name "numerals_from" p2) [e, e2] [] p3) X.env) :: starEach [] X.env := by rfl)
    (he : starEach (e :: [e2]) X.env = (false, eval e X.env) :: starEach [e2] X.env := by rfl) (hpl : (backTo p3 (starEach [e2] X.env)).any (·.1) = false := by rfl) :
    PE X (.Call (.Name "list" p) [.Call (.Name "numerals_from" p2) [e, e2] [] p3] [] pos) (tListG (tCallG (spFrom C CU) [] E0 t)) :=
  let ⟨_, _, GF, bG, kG, mgG⟩ := G.fn
  pe_listG (pgen_call GF (hr.mono (by decide)) hg2 mgG kG bG .nil ha (by decide) he hpl) passL (fun _ _ _ h => h.elim) hr hg B bt_list (by decide) (by decide) he2
end
section
variable {P : Program} {w : World} {K : PySem.W.Frag} {mg : Str → Option Value} {base : Heap} {C CO CU : Addr}
theorem scLaw : FnScope ["_law_script", "_law_pen_here", "_law_turn", "_law_bases_here", "_law_room", "_law_low_here", "_law_high", "_law_first", "_law_last", "_law_rows", "_law_other"] ["_law_script"] (defScope sLaw) := ⟨rfl, rfl, rfl, by decide +kernel, rfl, by decide +kernel, by decide +kernel⟩
theorem ok_law {f : Addr} {fd : FuncData} (F : Fun K "law" "law" sLaw f fd) (bF : Binds K fd ["_law_script"] []) (B : Bi mg) (T : NTy K mg C) (O : OpsT P w K mg base C CO) (OF : OfT P w K mg base C) (G : FromT P w K mg base C CU)
    (cPn : CallF P w K mg base CX0 1 "_law_pen" (spPen K)) (cT : CallF P w K mg base CX0 1 "_law_take" spTake) (cP : CallF P w K mg base CX0 2 "_law_pick" spPick) (cB : CallF P w K mg base CX0 3 "_law_bases" spBases) (cC : CallF P w K mg base CX0 5 "count_of" spCount)
    (cL : CallF P w K mg base CX0 6 "_law_low" spLow) (cR : CallG P w K mg base 10 "_law_row_right" (spRow C)) (cY : CallF P w K mg base CX0 9 "_law_beyond" (spBeyond C)) (cU : CallF P w K mg base CX0 11 "_law_unlike" (spUnlike C)) (cA : CallF P w K mg base CX0 11 "_law_at_once" spOnce) :
    FnG P w K mg base 12 f (spLaw K) := by
  refine okG F scLaw bF (fun vs H Q h => ?_) (fun cdv A outer s H vs Q hr hgd h => ?_)
  · obtain ⟨a, ns, rfl, _⟩ := h
    rfl
  · obtain ⟨a, ns, rfl, hS, k⟩ := h
    have hr10 : Room 10 _ := hr.mono (by decide)
    have hr9 : Room 9 _ := hr.mono (by decide)
    have hr6 : Room 6 _ := hr.mono (by decide)
    have hr5 : Room 5 _ := hr.mono (by decide)
    have hr3 : Room 3 _ := hr.mono (by decide)
    have hr2 : Room 2 _ := hr.mono (by decide)
    have hr1 : Room 1 _ := hr.mono (by decide)
    have hu : (A.deeper (envOfC "law" (defScope sLaw) s.heap.objs.size f cdv)).units + 64 < cLine := by have := hr.un; omega
    have hgd' : (A.deeper (envOfC "law" (defScope sLaw) s.heap.objs.size f cdv)).guards = some [] := hgd
    refine ⟨_, pss_cons (ps_set (i := 1) scLaw.nd rfl (Or.inl rfl) (pe_cf cPn hr1 L2.pass0 (pa_cons (pv 0) pa_nil)))
      (pss_cons (ps_for PassesOwn.never rfl (pi_range1 rfl B.range (pa_cons pe_int pa_nil)) (pg_name (i := 2) scLaw.nd rfl (Or.inl rfl))
        (pss_cons (ps_set (i := 3) scLaw.nd rfl (Or.inl rfl) (pe_cf cB hr3 L2.pass0 (pa_cons (pv 1) pa_nil)))
        (pss_cons (ps_set (i := 4) scLaw.nd rfl (Or.inl rfl) (pe_cf cC hr5 L2.pass0 (pa_cons (pv 3) pa_nil)))
        (pss_cons (ps_set (i := 5) scLaw.nd rfl (Or.inl rfl) (pe_cf cL hr6 L2.pass0 (pa_cons (pv 1) (pa_cons (pv 3) pa_nil))))
        (pss_cons (ps_set (i := 6) scLaw.nd rfl (Or.inl rfl) (pe_callB (call_min2 rfl) (by rfl) B.min bt_min (pa_cons (pe_op op_sub (pv 4) pe_int) (pa_cons (pe_op op_add (pv 5) (pe_cf cP hr2 L2.pass0 (pa_cons (pv 1)
          (pa_cons (pe_lst (pa_cons pe_int (pa_cons pe_int (pa_cons pe_int (pa_cons pe_int (pa_cons (pe_cf cT hr1 L2.pass0 (pa_cons (pv 1) (pa_cons pe_int pa_nil))) pa_nil)))))) pa_nil)))) pa_nil))))
        (pss_cons (ps_set (i := 7) scLaw.nd rfl (Or.inl rfl) (pe_of OF T.mgC hr6 (by exact (pa_cons (pv 5) (pa_cons (pv 3) pa_nil)))))
        (pss_cons (ps_set (i := 8) scLaw.nd rfl (Or.inl rfl) (pe_of OF T.mgC hr6 (by exact (pa_cons (pv 6) (pa_cons (pv 3) pa_nil)))))
        (pss_cons (ps_set (i := 9) scLaw.nd rfl (Or.inl rfl) (pe_rows G B.list hr10 (by exact (pa_cons (pv 7) (pa_cons (pv 8) pa_nil)))))
        (pss_cons (ps_if (PW.pt (pw_or (pt_cmpR op_neN (pe_callB call_len_seq (by rfl) B.len bt_len (pa_cons (pv 9) pa_nil)) (pe_op op_add (pe_op op_sub (pv 6) (pv 5)) pe_int) (nomark _))
          (pw_or1 (pt_not (pt_val (pe_cg cR hr10 hgd' (by exact (pa_cons (pv 9) (pa_cons (pv 3) (pa_cons (pv 5) pa_nil)))))))))) (pss_one (ps_ret pe_bl)) pss_nil)
        (pss_cut (ps_if (PW.pt (pw_and (pt_cmpR op_gt (pv 6) (pv 5) (nomark _)) (pw_and1 (pt_cmpR (op_neL hu) (pe_rows G B.list hr10 (by exact (pa_cons (pv 8) (pa_cons (pv 7) pa_nil)))) (pe_lst pa_nil) (nomark _))))) (pss_one (ps_ret pe_bl)) pss_nil)
        (pss_cons (ps_if (pt_cmpR op_neN (pe_cf cY hr9 L2.pass0 (pa_cons (pe_of OF T.mgC hr6 (by exact (pa_cons (pe_op op_sub (pv 4) pe_int) (pa_cons (pv 3) pa_nil)))) pa_nil)) (pv 4) (nomark _)) (pss_one (ps_ret pe_bl)) pss_nil)
        (pss_cons (ps_set (i := 10) scLaw.nd rfl (Or.inl rfl) (pe_of OF T.mgC hr6 (by exact (pa_cons pe_int (pa_cons (pe_op op_cat (pe_tail (pv 3)) (pe_lst (pa_cons (pe_op op_add pe_int (pe_op op_modP (pe_callTy call_int1 (by rfl) B.int bt_int (pa_cons (pe_op op_sub (pe_ix ix_I (pv 3) pe_int (fun _ _ => rfl)) pe_int) pa_nil)) pe_int)) pa_nil))) pa_nil)))))
        (pss_cons (ps_if (PW.pt (pw_and (pt_not (pt_val (pe_cf cU hr L2.pass0 (by exact (pa_cons (pv 7) (pa_cons (pv 10) pa_nil)))))) (pw_and1 (pt_cmpR (op_neTI hu) (pe_fld (pv 10) rfl) (pe_fld (pv 7) rfl) (nomark _))))) (pss_one (ps_ret pe_bl)) pss_nil)
        (pss_one (ps_if (PW.pt (pw_or (pt_cmpR (op_neN' O hr2) (pv 7) (pe_of OF T.mgC hr6 (by exact (pa_cons (pv 5) (pa_cons (pv 3) pa_nil)))) (nomark _)) (pw_or1 (pt_cmpR (op_neN' O hr2) (pv 8) (pe_of OF T.mgC hr6 (by exact (pa_cons (pv 6) (pa_cons (pv 3) pa_nil)))) (nomark _))))) (pss_one (ps_ret pe_bl)) pss_nil)))))))))))))))
      (pss_one (ps_ret (pe_cf cA hr L2.pass0 (pa_cons (pv 1) pa_nil))))), ?_⟩
    refine ⟨_, rfl, a, ns, rfl, hS, fun H0 p q _ _ _ hp0 => ?_⟩
    refine ⟨4, rfl, by decide, by decide, ?_⟩
    refine for_it (walk_range (lo := 0) (n := (4 : Int).toNat)) (fun i σ H' => ∃ x2 x3 x4 x5 x6 x7 x8 x9 x10, σ = [some (.ref a), some (.ref p), x2, x3, x4, x5, x6, x7, x8, x9, x10] ∧ PenAt H' p q (17 * i))
      ⟨none, none, none, none, none, none, none, none, none, rfl, hp0⟩ (fun _ _ _ _ _ => trivial) ?_ ?_
    · rintro i x σ H0' _ hi4 ⟨x2, x3, x4, x5, x6, x7, x8, x9, x10, rfl, hp⟩ ⟨rfl, rfl⟩
      have hi : i < 4 := hi4
      refine ⟨_, rfl, p, q, _, rfl, hp, by omega, fun H1 D bs K1 hp1 nD hD ok => ?_⟩
      have nDp : D ≠ p := hp1.ne (.inl hD)
      have hroom := ok.room
      have hgt := ok.gt
      refine ⟨_, rfl, D, bs, rfl, .inl hD, ok, fun H2 S2 => ?_⟩
      refine ⟨_, rfl, _, rfl, p, q, D, bs, _, rfl, hp1.same S2, by omega, .inl (S2 _ _ hD), ok, fun H3 v K3 hp3 v0 v1 => ?_⟩
      have hD3 := K3 _ _ nDp (S2 _ _ hD)
      refine ⟨_, rfl, _, _, rfl, rfl, _, rfl, _, rfl, _, rfl, p, q, 41, _, rfl, hp3, by omega, by decide, by decide, fun H4 d K4 hp4 d0 d1 => ?_⟩
      have hD4 := K4 _ _ nDp hD3
      refine ⟨by show 5 ≤ sizeLine; decide, fun l nl => ?_⟩
      refine ⟨p, q, l, [0, 1, 5, 12, d], _, rfl, hp4.same (same_lay nl), by omega, upd_same, by show 1 ≤ 5; decide, by show 5 ≤ 1000; decide, fun H5 x K5 hp5 hx => ?_⟩
      have hD5 : H5 D = some (.lst (bs.map V.int)) := K5 _ _ nDp ((upd_ne (ne_of_none hD4 nl)).trans hD4)
      have hx2 : 0 ≤ x ∧ x ≤ 40 := by
        have h5 : x = 0 ∨ x = 1 ∨ x = 5 ∨ x = 12 ∨ x = d := by simpa using hx
        omega
      refine ⟨_, _, rfl, rfl, _, _, rfl, ?_⟩
      obtain ⟨u, hu5⟩ : ∃ u, u = if v + x < prd bs - 1 then v + x else prd bs - 1 := ⟨_, rfl⟩
      have hu6 : v ≤ u ∧ u ≤ v + 40 ∧ u < prd bs := by
        rw [hu5]
        split <;> omega
      rw [← hu5]
      obtain ⟨uv, uv40, u1⟩ := hu6
      have u0 : 0 ≤ u := by omega
      refine ⟨rfl, _, rfl, _, rfl, v, D, bs, rfl, .inl hD5, ok, v0, v1, fun H6 f S6 nf hf => ?_⟩
      refine ⟨rfl, _, rfl, _, rfl, u, D, bs, rfl, .inl (S6 _ _ hD5), ok, u0, u1, fun H7 g S7 ng hg => ?_⟩
      have T7 := S6.trans S7
      refine ⟨_, rfl, _, rfl, f, g, bs, bs, v, u, rfl, hf.same S7, hg, by omega, fun _ H8 out S8 hlen hR => ?_, fun z => (z rfl).elim⟩
      intro r nr
      have T8 := T7.trans S8
      have T9 := same_new (o := .lst out) T8 nr
      have F9 : Same H7 (upd H8 r (.lst out)) := same_new S8 nr
      have hr9 : upd H8 r (.lst out) r = some (.lst out) := upd_same
      have rows9 : ∀ j, j < out.length → ∃ y, out[j]? = some (.ref y) ∧ NumAt C (upd H8 r (.lst out)) y bs (v + (j : Nat)) := fun j hj => by
        obtain ⟨y, e1, _, e3⟩ := hR j hj
        exact ⟨y, e1, e3.same (same_lay nr)⟩
      show tSeq _ _ _ _ (upd H8 r (.lst out))
      revert T9 F9 hr9 rows9
      generalize upd H8 r (.lst out) = H9
      intro T9 F9 hr9 rows9
      refine ⟨_, rfl, r, out, rfl, .inl (SqL.of hr9), _, rfl, _, rfl, _, _, rfl, rfl, _, _, rfl, rfl, _, rfl, congrArg V.int (by omega), false, rfl, ?_⟩
      refine iteF ?_
      refine ⟨_, rfl, _, rfl, _, rfl, r, D, v, bs, out, rfl, ⟨hr9, rows9⟩, T9 _ _ hD5, ok, v0, by omega, by omega, fun H10 S10 => ⟨true, rfl, ?_⟩⟩
      refine iteF ?_
      have T10 := T9.trans S10
      have hf10 : NumAt C H10 f bs v := (hf.same (S7.trans F9)).same S10
      have hg10 : NumAt C H10 g bs u := (hg.same F9).same S10
      refine ⟨fun σ' H' => σ' = [some (.ref a), some (.ref p), some (.int (0 + (i : Int))), some (.ref D), some (.int (prd bs)), some (.int v), some (.int u), some (.ref f), some (.ref g), some (.ref r), x10] ∧ Same H10 H', ?_, ?_⟩
      · refine ⟨_, rfl, _, rfl, _, _, rfl, rfl, _, rfl, ?_⟩
        by_cases c : v < u
        · rw [decide_eq_true c]
          refine iteT ?_
          refine ⟨_, rfl, _, rfl, g, f, bs, bs, u, v, rfl, hg10, hf10, by omega, fun _ H11 out2 S11 hlen2 _ => ?_, fun z => (z rfl).elim⟩
          intro r2 nr2
          have e2 : out2 = [] := List.eq_nil_of_length_eq_zero (by omega)
          subst e2
          refine ⟨Nat.zero_le _, fun e he => ⟨r2, e, [], [], rfl, rfl, ?_, upd_same, false, by simp, ?_⟩⟩
          · have nre : r2 ≠ e := fun z => by rw [← z, upd_same] at he; cases he
            rw [upd_ne nre, upd_same]
            rfl
          · exact iteF ⟨rfl, same_new (same_new S11 nr2) he⟩
        · rw [decide_eq_false c]
          exact iteF (iteF ⟨rfl, Same.refl H10⟩)
      · rintro _ H12 ⟨rfl, S12⟩
        have T12 := T10.trans S12
        have hf12 := hf10.same S12
        have hg12 := hg10.same S12
        have hD12 := T12 _ _ hD5
        refine ⟨rfl, _, rfl, _, _, rfl, rfl, _, rfl, prd bs - 1, D, bs, rfl, .inl hD12, ok, by omega, by omega, fun H13 z S13 nz hz => ?_⟩
        refine ⟨z, bs, _, rfl, hz, rfl, fun H14 S14 => ⟨_, rfl, _, rfl, rfl, false, rfl, ?_⟩⟩
        refine iteF ?_
        have T14 := S13.trans S14
        have hD14 := T14 _ _ hD12
        obtain ⟨b0, tl, ebs⟩ : ∃ b0 tl, bs = b0 :: tl := by
          cases bs with
          | nil => exact absurd ok.pos (by decide)
          | cons b0 tl => exact ⟨b0, tl, rfl⟩
        have hb0 : bs[0]? = some b0 := by rw [ebs]; rfl
        have hb2 := ok.two b0 (List.mem_of_getElem? hb0)
        obtain ⟨c, hc⟩ : ∃ c, c = 2 + (b0 - 1) % 99 := ⟨_, rfl⟩
        have hc2 : 2 ≤ c ∧ c ≤ 100 ∧ c ≠ b0 := by omega
        have edr : bs.drop 1 = tl := by rw [ebs]; rfl
        have okc : OkB (bs.drop 1 ++ [c]) := by
          have h1 := ok.few
          have h2 := ok.pos
          refine ⟨by simp, ?_, fun y hy => ?_⟩
          · rw [List.length_append, List.length_drop, List.length_singleton]
            omega
          · rcases List.mem_append.mp hy with h | h
            · exact ok.two.drop 1 y h
            · rw [List.mem_singleton.mp h]
              omega
        have neq : bs ≠ bs.drop 1 ++ [c] := by
          rw [edr, ebs]
          exact turned_ne hc2.2.2
        have few := ok.few
        refine ⟨rfl, _, rfl, D, bs, rfl, hD14, fun t nt => ?_⟩
        have U1 := same_lay (o := .lst ((bs.drop 1).map V.int)) nt
        refine ⟨_, rfl, D, bs, 0, b0, rfl, rfl, .inl (U1 _ _ hD14), hb0, _, _, rfl, rfl, .inl ⟨_, rfl, ?_⟩⟩
        refine ⟨_, _, rfl, rfl, by decide, _, _, rfl, rfl, by show 1 ≤ sizeLine; decide, fun m nm => ?_⟩
        subst hc
        have U2 := same_new (o := .lst [.int (2 + (b0 - 1) % 99)]) U1 nm
        have ntm : t ≠ m := fun w => by rw [← w, upd_same] at nm; cases nm
        refine ⟨t, m, (bs.drop 1).map V.int, [.int (2 + (b0 - 1) % 99)], rfl, rfl, by rw [upd_ne ntm, upd_same], upd_same, ?_, fun o no => ?_⟩
        · rw [List.length_map, List.length_drop]
          exact small _ (by show _ + 1 ≤ 1000; omega)
        have U3 := same_new (o := .lst ((bs.drop 1).map V.int ++ [.int (2 + (b0 - 1) % 99)])) U2 no
        refine ⟨0, o, bs.drop 1 ++ [2 + (b0 - 1) % 99], rfl, .inl (by rw [upd_same, List.map_append]; rfl), okc, Int.le_refl _, prd_pos okc.two, fun H16 oo S16 noo hoo => ?_⟩
        have U4 := (T14.trans U3).trans S16
        have hf16 := hf12.same U4
        refine ⟨_, rfl, _, rfl, f, oo, bs, _, v, 0, rfl, hf16, hoo, neq, by omega, fun H17 S17 => ⟨true, rfl, ?_⟩⟩
        refine iteF (iteF ?_)
        have U5 := U4.trans S17
        have hf17 := hf12.same U5
        have hg17 := hg12.same U5
        have hD17 := U5 _ _ hD12
        refine ⟨_, rfl, rfl, _, rfl, _, rfl, v, D, bs, rfl, .inl hD17, ok, v0, v1, fun H18 y S18 ny hy => ?_⟩
        obtain ⟨d1', _, _, i1, _⟩ := id (hf17.same S18)
        obtain ⟨d2', _, _, i2, _⟩ := id hy
        refine ⟨f, _, _, y, _, _, rfl, rfl, i1, i2, f, y, bs, bs, v, v, rfl, hf17.same S18, hy, fun H19 S19 => ⟨_, rfl, _, rfl, ?_⟩⟩
        rw [decide_eq_true ⟨rfl, rfl⟩]
        refine iteF ?_
        have U6 := S18.trans S19
        refine ⟨_, rfl, rfl, _, rfl, _, rfl, u, D, bs, rfl, .inl (U6 _ _ hD17), ok, u0, u1, fun H20 y2 S20 ny2 hy2 => ?_⟩
        have U7 := U6.trans S20
        obtain ⟨d3', _, _, i3, _⟩ := id (hg17.same U7)
        obtain ⟨d4', _, _, i4, _⟩ := id hy2
        refine ⟨g, _, _, y2, _, _, rfl, rfl, i3, i4, g, y2, bs, bs, u, u, rfl, hg17.same U7, hy2, fun H21 S21 => ⟨_, rfl, _, rfl, ?_⟩⟩
        rw [decide_eq_true ⟨rfl, rfl⟩]
        refine iteF ?_
        refine ⟨_, _, _, _, _, _, _, _, _, rfl, ?_⟩
        have V1 := ((T12.trans U5).trans U7).trans S21
        exact (hp5.same V1).mono (by omega)
    · rintro σ H' ⟨x2, x3, x4, x5, x6, x7, x8, x9, x10, rfl, hp⟩
      exact ⟨_, rfl, p, q, _, rfl, hp, by decide, fun H2 => k H2⟩
end
end K7

/-! A for over a generator that is left by break: first the steps that leave the table of generators as it is. -/
namespace K7
open PySem PySem.Spec PyProof.Rows L2 StX GenW
section
variable {X : Cx}
structure PEg (X : Cx) (e : Expr) (t : TE) : Prop where
  run : ∀ (pins : List (Addr × Obj)) (s : Shared) (σ : L2.St) (H : Hp) (Q : VK), Inv X pins σ H s → t σ H Q → wpAny (model X.prog X.w) X.A (eval e X.env) (fun u s' => s'.gens = s.gens ∧ EP X pins σ Q u s') X.xe s
structure PTg (X : Cx) (e : Expr) (t : TT) : Prop where
  run : ∀ (pins : List (Addr × Obj)) (s : Shared) (σ : L2.St) (H : Hp) (Q : Bool → Hp → Prop), Inv X pins σ H s → t σ H Q → wpAny (model X.prog X.w) X.A (isTrue e X.env (eval e X.env)) (fun b s' => s'.gens = s.gens ∧ TP X pins σ Q b s') X.xe s
structure PSg (X : Cx) (st : Stmt) (t : TS) : Prop where
  run : ∀ (pins : List (Addr × Obj)) (s : Shared) (σ : L2.St) (H : Hp) (D : Ends), Inv X pins σ H s → t D σ H → wpAny (model X.prog X.w) X.A (exec st X.env) (fun f s' => s'.gens = s.gens ∧ SP X pins D f s') X.xe s
structure PSsg (X : Cx) (sts : List Stmt) (t : TS) : Prop where
  run : ∀ (pins : List (Addr × Obj)) (s : Shared) (σ : L2.St) (H : Hp) (D : Ends), Inv X pins σ H s → t D σ H → wpAny (model X.prog X.w) X.A (execs sts X.env) (fun f s' => s'.gens = s.gens ∧ SP X pins D f s') X.xe s
theorem peg_var {i : Nat} {x : Str} {pos : Pos} (hN : X.N[i]? = some x := by rfl) (hv : Vis X.env.scope x := by exact Or.inl rfl) (hd : (x == ("__debug__" : Str)) = false := by decide) (hcd : (x == ("__classdict__" : Str)) = false := by decide) : PEg X (.Name x pos) (tVar i) := by
  refine ⟨fun pins s σ H Q I h => ?_⟩
  obtain ⟨v, e, h⟩ := h
  obtain ⟨m, hn, hl⟩ := I.loc
  obtain ⟨u, r, l⟩ := hl i x v hN e hv
  have done : s.gens = s.gens ∧ EP X pins σ Q u s := ⟨rfl, v, H, I, r, h⟩
  rcases l with ⟨hk, hm⟩ | ⟨hk | hk, c, hc, hcell⟩
  · exact wpAny_Name (wpAny_loadName_local I.ok.kind hk hn hm done) hd
  · exact wpAny_Name (wpAny_loadName_cell I.ok.kind hk hc hcell done) hd
  · exact wpAny_Name (wpAny_loadName_free I.ok.kind hk hc hcell done hcd) hd
theorem peg_int {i : Int} {j : Nat} {pos : Pos} : PEg X (.Constant (.int i) j pos) (tC (.int i)) := ⟨fun _ _ _ H _ I h => wpAny_Constant_int ⟨rfl, .int i, H, I.tok _, ⟨_, rfl⟩, h⟩⟩
theorem peg_fld {e : Expr} {te : TE} {f : Str} {pos : Pos} (he : PEg X e te) (hb : attributeBase e f X.env (eval e X.env) = eval e X.env := by rfl) : PEg X (.Attribute e f pos) (tFld X.K te f) := by
  refine ⟨fun pins s σ H Q I h => ?_⟩
  refine attr_of hb (thn (he.run pins s σ H _ I h) fun u s1 ⟨hg, x, H1, I1, rx, a, C, dx, fs, v, ex, ea, c, n, l, q⟩ => ?_)
  subst ex
  obtain rfl : u = Value.ref a := rx
  obtain ⟨mA, O, r, _, _, _⟩ := ins_get I1.hok ea
  obtain ⟨u', hu, ru⟩ := RelO.some_of (v := v) (o := mA f) (by rw [← l]; exact r f)
  exact L2.get_map I1.kIn O (c.get f) c.hd n hu (handed_of ru) ⟨hg, v, H1, I1.tok _, ru, q⟩
/-- xs.append(e) -/
def tAppG (to te : TE) : TE := fun σ H Q => to σ H fun x H1 => ∃ l xs, x = .ref l ∧ H1 l = some (.lst xs) ∧ te σ H1 fun y H2 => H2 l = some (.lst xs) ∧ xs.length < sizeLine ∧ Q .non (upd H2 l (.lst (xs ++ [y])))
theorem peg_app {o e : Expr} {to te : TE} {apos cpos : Pos} (ho : PEg X o to) (he : PEg X e te) (hbase : attributeBase o "append" X.env (eval o X.env) = eval o X.env := by rfl)
    (hfew : ((backTo cpos (starEach [e] X.env)).all (fun x => !x.1) && (backToKw cpos (keywordEach [] X.env)).all (fun x => x.1.isSome)
      && decide ([e].length + ([] : List Keyword).length + (if ([] : List Keyword).isEmpty then 0 else 1) < 30)) = true := by rfl)
    (hline : (apos.endLine == cpos.line) = true := by rfl) (hs : starEach [e] X.env = (false, eval e X.env) :: starEach [] X.env := by rfl) (hplain : (backTo cpos (starEach [] X.env)).any (·.1) = false := by rfl) :
    PEg X (.Call (.Attribute o "append" apos) [e] [] cpos) (tAppG to te) := by
  refine ⟨fun pins s σ H Q I h => ?_⟩
  refine wpAny_Call_method_late hbase hfew hline rfl (thn (ho.run pins s σ H _ I h) fun v s1 ⟨hg1, x, H1, I1, r1, l, xs, ex, hl, q1⟩ => ?_)
  subst ex
  obtain rfl : v = Value.ref l := r1
  obtain ⟨h1, h2⟩ := tyV_is (T := "list") (x := .ref l) I1 rfl (.inl ⟨rfl, _, SqL.of hl⟩)
  refine ⟨"list", _, PySem.F.plainAttrs_list, PySem.F.slot_list_append, PySem.F.type_list_append, h1, h2, ?_⟩
  rw [hs]
  refine Calls.callWith_builtin (by show (false || (backTo cpos (starEach [] X.env)).any (·.1)) = false; rw [hplain] <;> rfl) (Calls.evalArgs_plain ?_)
  refine Calls.spliced_cons (thn (he.run pins s1 σ H1 _ I1 q1) fun u s2 ⟨hg2, y, H2, I2, ru, hl2, hz, q⟩ => Calls.spliced_nil ?_)
  obtain ⟨z, its, n, r, hlen, e2⟩ := I2.lstM hl2
  refine call_meets PySem.F.slot_list_append ⟨_, e2, rfl⟩ PySem.F.entry_list_append (PySem.F.args_list_append_2 _ _) (PySem.list_append l its.toArray n u (by rw [List.size_toArray]; omega)) ⟨e2, ?_⟩
  refine ⟨hg2.trans hg1, .non, _, I2.lset (its' := its ++ [u]) hl2 e2 (by simp) (r.append (.cons ru .nil)) ?_, rfl, q⟩
  rw [List.length_append, List.length_singleton]
  omega
/-- len(xs) -/
def tLenG (te : TE) : TE := fun σ H Q => te σ H fun x H1 => ∃ l xs, x = .ref l ∧ H1 l = some (.lst xs) ∧ Q (.int (xs.length : Nat)) H1
theorem peg_len {e : Expr} {te : TE} {p pos : Pos} (hm : X.mg "len" = none) (he : PEg X e te) (hg : Gl X "len" := by rfl)
    (hs : starEach [e] X.env = (false, eval e X.env) :: starEach [] X.env := by rfl) (hpl : (backTo pos (starEach [] X.env)).any (·.1) = false := by rfl) : PEg X (.Call (.Name "len" p) [e] [] pos) (tLenG te) := by
  refine ⟨fun pins s σ H Q I h => ?_⟩
  refine wpAny_Call_Name_kw (ld_blt I hg hm bt_len ?_ (by decide) (by decide))
  refine PyProof.Rows.callWith_builtin1 ?_ hs hpl
  rw [hs]
  refine Calls.spliced_cons (thn (he.run pins s σ H _ I h) fun u s1 ⟨hg1, x, H1, I1, r1, l, xs, ex, hl, q⟩ => Calls.spliced_nil ?_)
  subst ex
  obtain rfl : u = Value.ref l := r1
  obtain ⟨its, r', pl, hz⟩ := I1.list (SqL.of hl)
  have hlen := r'.length
  have hn := line63
  exact Calls.call_len_list pl.isList (by simp only [List.size_toArray] <;> omega) ⟨hg1, .int xs.length, H1, I1.tok _, ⟨s1.toks + 1, by rw [List.size_toArray, hlen]⟩, q⟩
/-- e == f, ints -/
def tEqG (ta tb : TE) : TT := fun σ H Q => ta σ H fun x H1 => tb σ H1 fun y H2 => ∃ i j : Int, x = .int i ∧ y = .int j ∧ Q (decide (i = j)) H2
theorem ptg_eq {a b : Expr} {ta tb : TE} {pos : Pos} (ha : PEg X a ta) (hb : PEg X b tb) (hm : behindInMarks .Eq b = false) : PTg X (.Compare a [.Eq] [b] pos) (tEqG ta tb) := by
  refine ⟨fun pins s σ H Q I h => ?_⟩
  refine wpAny_isTrue_Compare1 (thn (ha.run pins s σ H _ I h) fun v s1 ⟨g1, x, H1, I1, r1, q1⟩ => thn (hb.run pins s1 σ H1 _ I1 q1) fun u s2 ⟨g2, y, H2, I2, r2, i, j, ex, ey, q2⟩ => ?_) hm
  subst ex ey
  obtain ⟨t, rfl⟩ := r1
  obtain ⟨t', rfl⟩ := r2
  have r := op_eqI (X := X) pins s2 σ H2 (.int i) (.int j) (.int i t) (.int j t') (fun z H' => z = .bl (decide (i = j)) ∧ Q (decide (i = j)) H') I2 ⟨t, rfl⟩ ⟨t', rfl⟩ ⟨i, j, rfl, rfl, rfl, q2⟩
  refine eq_int ?_
  have e : (i == j) = decide (i = j) := by
    by_cases c : i = j
    · subst c; simp
    · simp [c]
  first
    | exact wpAny_truthy_bool ⟨g2.trans g1, H2, I2, by first | exact q2 | (rw [e]; exact q2)⟩
    | exact wpAny_truthy_bool ⟨g2.trans g1, H2, I2, q2⟩
theorem psg_expr {e : Expr} {te : TE} {pos : Pos} (he : PEg X e te) (hs : swapsWith e none pos.line X.env = pure false := by rfl) : PSg X (.Expr e pos) (tDrop te) := by
  refine ⟨fun pins s σ H D I h => ?_⟩
  exact wpAny_Expr_any (thn (he.run pins s σ H _ I h) fun v s1 ⟨g1, x, H1, I1, r1, q1⟩ => ⟨g1, σ, H1, I1, q1⟩) I.quiet hs
theorem psg_break {pos : Pos} : PSg X (.Break pos) tBreak := ⟨fun _ _ σ H _ I h => wpAny_Break ⟨rfl, σ, H, I, h⟩⟩
theorem pssg_nil : PSsg X [] tNext := ⟨fun _ _ σ H _ I h => wpAny_execs_nil ⟨rfl, σ, H, I, h⟩⟩
theorem pssg_cons {st : Stmt} {rest : List Stmt} {t u : TS} (h1 : PSg X st t) (h2 : PSsg X rest u) : PSsg X (st :: rest) (tSeq t u) := by
  refine ⟨fun pins s σ H D I h => ?_⟩
  refine wpAny_execs_cons (thn (h1.run pins s σ H { D with nx := u D } I h) fun f s1 ⟨g1, q⟩ => ?_)
  cases f with
  | next =>
    obtain ⟨σ', H', I', q⟩ := q
    exact thn (h2.run pins s1 σ' H' D I' q) fun f' s2 ⟨g2, q2⟩ => ⟨g2.trans g1, q2⟩
  | ret v => exact ⟨g1, q⟩
  | brk => exact ⟨g1, q⟩
  | cont => exact ⟨g1, q⟩
theorem psg_if {c : Expr} {a b : List Stmt} {tc : TT} {t u : TS} {pos : Pos} (hc : PTg X c tc) (ha : PSsg X a t) (hb : PSsg X b u) : PSg X (.If c a b pos) (tIfS tc t u) := by
  refine ⟨fun pins s σ H D I h => ?_⟩
  refine wpAny_If (thn (hc.run pins s σ H _ I h) fun d s1 ⟨g1, H1, I1, q1⟩ => ?_)
  cases d with
  | true => exact thn (ha.run pins s1 σ H1 D I1 q1) fun f s2 ⟨g2, q⟩ => ⟨g2.trans g1, q⟩
  | false => exact thn (hb.run pins s1 σ H1 D I1 q1) fun f s2 ⟨g2, q⟩ => ⟨g2.trans g1, q⟩
end
end K7

/-! A generator that sleeps while the def that walks it goes on: the generator's state is read anew at every waking. -/
namespace K7
open PySem PySem.Spec PyProof.Rows L2 StX GenW
/-- the objects below L alone -/
def cutH (L : Nat) (h : Heap) : Heap := { h with objs := h.objs.extract 0 L }
theorem cutH_size {L : Nat} {h : Heap} (hL : L ≤ h.objs.size) : (cutH L h).objs.size = L := by
  show (h.objs.extract 0 L).size = L
  rw [Array.size_extract]; omega
theorem cutH_at {L b : Nat} {h : Heap} (hb : b < L) : (cutH L h).get? b = h.get? b := by
  have e : (h.objs.extract 0 L)[b]? = h.objs[b]? := by
    rw [Array.getElem?_extract]
    by_cases c : b < min L h.objs.size
    · simp [c] <;> omega
    · have : h.objs.size ≤ b := by omega
      simp [this] <;> omega
  show (match (h.objs.extract 0 L)[b]? with | some ⟨_, _, .freed, _⟩ => none | o => o) = _
  rw [e]
  rfl
theorem cutH_lt {L b : Nat} {h : Heap} {o : Obj} (e : (cutH L h).get? b = some o) : b < L := by
  refine Nat.lt_of_lt_of_le (Heap.lt_size e) ?_
  show (h.objs.extract 0 L).size ≤ L
  rw [Array.size_extract]
  exact Nat.le_trans (Nat.sub_le _ _) (Nat.min_le_left _ _)
theorem cutH_get {L b : Nat} {h : Heap} {o : Obj} (e : (cutH L h).get? b = some o) : h.get? b = some o := (cutH_at (cutH_lt e)).symm.trans e
theorem cutH_funs {L : Nat} {h base : Heap} : ∀ {l : List Env}, (∀ b ∈ frs l, b < L) → h.FunFrames base l → (cutH L h).FunFrames base l := by
  intro l
  induction l with
  | nil => intro _ _; trivial
  | cons env r ih =>
    intro hs hl
    obtain ⟨hk, ⟨a, o, hf, hn, ho, hd⟩, hr⟩ := hl
    have ha : a < L := hs a (by unfold frs; rw [List.filterMap_cons, hf]; exact List.mem_cons_self)
    exact ⟨hk, ⟨a, o, hf, hn, (cutH_at ha).trans ho, hd⟩, ih (fun b hb => hs b (by unfold frs; rw [List.filterMap_cons, hf]; exact List.mem_cons_of_mem _ hb)) hr⟩

def gN : List Str := ["low", "high", "value"]
abbrev genv (L fF : Addr) (cdv : Value) : Env := envOfC "numerals_from" (defScope sFrom) L fF cdv
theorem genv_cells {L fF : Addr} {cdv : Value} : (genv L fF cdv).cells = [] := by kernel_rfl
/-- the generator's context from one state of its walker on -/
def rcx (Xc : Cx) (Aw : Around) (L fF : Addr) (cdv : Value) (pa : Addr × Obj) (s : Shared) (H : Hp) : Cx where
  prog := Xc.prog
  w := Xc.w
  K := Xc.K
  mg := Xc.mg
  base := Xc.base
  A := Aw.deeper (genv L fF cdv)
  N := gN
  s_0 := { s with heap := cutH L s.heap }
  H_0 := H
  env := genv L fF cdv
  outer := Xc.stack
  stack := genv L fF cdv :: Xc.stack
  ex := []
  calm := true
  fn := fun _ => true
  pn := [pa]
  xe := fun _ _ => False
/-- what the generator's frame holds -/
def LocO (L fF : Addr) (cdv : Value) (σg : L2.St) (o : Obj) : Prop := (∃ es ep, o.data = .dict es ep) ∧ ∀ h : Heap, h.get? L = some o → ∃ m, h.Ns L m ∧ ∀ (i : Nat) (x : Str) (v : V), gN[i]? = some x → σg[i]? = some (some v) → Vis (defScope sFrom) x → ∃ u, RelV v u ∧ Look (genv L fF cdv) h m x u
section
variable {Xc : Cx} {Aw : Around} {L fF : Addr} {cdv : Value} {pa : Addr × Obj} {pins : List (Addr × Obj)} {σ σg : L2.St} {H H' : Hp} {s s' : Shared} {oL : Obj}
theorem loc_of {X : Cx} {ps : List (Addr × Obj)} (G : Inv X ps σg H s) (he : X.env = genv L fF cdv) (hN : X.N = gN) : ∃ o, s.heap.get? L = some o ∧ LocO L fF cdv σg o := by
  obtain ⟨m, hn, hl⟩ := G.loc
  rw [he] at hn hl
  rw [hN] at hl
  obtain ⟨o, es, ep, ho, hd, hk, hf⟩ := id hn
  refine ⟨o, ho, ⟨es, ep, hd⟩, fun h hh => ⟨m, ⟨o, es, ep, hh, hd, hk, hf⟩, fun i x v e1 e2 e3 => ?_⟩⟩
  obtain ⟨u, r, l⟩ := hl i x v e1 e2 e3
  refine ⟨u, r, ?_⟩
  rcases l with l | ⟨_, c, e, _⟩
  · exact .inl l
  · rw [genv_cells] at e
    cases e
theorem up (I : Inv Xc ((L, oL) :: pa :: pins) σ H s) (hL : Xc.env.locals < L) (hpa : L < pa.1) (hfr : Aw.frames = some Xc.stack) (hh : Aw.handled = none) (hlo : LocO L fF cdv σg oL) (hlen : σg.length = 3) :
    Inv (rcx Xc Aw L fF cdv pa s H) [] σg H s := by
  obtain ⟨eL, nL, neL, nfL, _⟩ := I.pin (L, oL) (List.mem_append_right _ List.mem_cons_self)
  obtain ⟨eA, nA, neA, nfA, dA⟩ := I.pin pa (List.mem_append_right _ (List.mem_cons_of_mem _ List.mem_cons_self))
  have hsz : (cutH L s.heap).objs.size = L := cutH_size (Nat.le_of_lt (Heap.lt_size eL))
  have hbs : Xc.base.objs.size ≤ L := Nat.le_trans I.ok.bsz (Nat.le_trans I.ok.above (Nat.le_of_lt hL))
  have hst : ∀ b ∈ frs Xc.stack, b < L := fun b hb => by
    rcases List.mem_cons.mp (I.stkSub b hb) with z | z
    · rw [z]; exact hL
    · obtain ⟨_, o, ho, _⟩ := I.ok.funs.mem z
      exact Nat.lt_of_lt_of_le (Heap.lt_size ho) (Nat.le_trans I.ok.above (Nat.le_of_lt hL))
  have noc : ∀ (x : Str) (c : Addr), (genv L fF cdv).cells.lookup x = some c → False := fun x c e => by
    rw [genv_cells] at e; cases e
  have noA : ∀ b : Addr, b ∉ (rcx Xc Aw L fF cdv pa s H).ex := fun b z => absurd (show b ∈ ([] : List Addr) from z) (by simp)
  refine ⟨⟨I.ok.mod, scFr.kind, rfl, rfl, Nat.le_of_eq hsz, fun y z c h1 _ => (noc y c h1).elim, fun y hy => ?_, fun y c _ h => (noc y c h).elim, fun _ => hh, Around.frames_deeper hfr, .inr ⟨rfl, rfl⟩, fun b z => absurd z (noA b), fun b o e => ?_, Nat.le_trans hbs (Nat.le_of_eq hsz.symm), fun b _ _ => noA b, fun b z => absurd z (noA b), cutH_funs hst I.stack, I.stkFree⟩,
    rfl, I.bare, Un.kept fun b u q => cutH_get q, hlo.2 s.heap eL, fun y c h => (noc y c h).elim, nL, fun y c h => (noc y c h).elim, fun p hp => ?_, I.hok, hlen⟩
  · have hy : (defScope sFrom).names.lookup y = some .cell ∨ (defScope sFrom).names.lookup y = some .free := hy
    rcases hy with hy | hy
    · exact cell_has hy
    · exact absurd rfl (scFr.nofree _ (PySem.mem_of_lookup hy))
  · obtain ⟨z1, z2⟩ := I.bs b o e
    exact ⟨(cutH_at (Nat.lt_of_lt_of_le (Heap.lt_size e) hbs)).trans z1, z2⟩
  · have hp : p ∈ [pa] := by simpa [rcx] using hp
    rw [List.mem_singleton.mp hp]
    refine ⟨eA, nA, Nat.ne_of_gt hpa, fun z => Nat.lt_irrefl _ (Nat.lt_trans hpa (hst _ z)), dA⟩
theorem down (I : Inv Xc ((L, oL) :: pa :: pins) σ H s) (hL : Xc.env.locals < L) (hpa : L < pa.1) (hpl : ∀ p ∈ Xc.pn ++ pins, p.1 < L) (hcl : Xc.env.cells = []) (G : Inv (rcx Xc Aw L fF cdv pa s H) [] σg H' s') :
    ∃ oL', LocO L fF cdv σg oL' ∧ Inv Xc ((L, oL') :: pa :: pins) σ H' s' := by
  obtain ⟨oL', eL', hlo⟩ := loc_of G rfl rfl
  refine ⟨oL', hlo, ?_⟩
  obtain ⟨eL, nL, neL, nfL, _⟩ := I.pin (L, oL) (List.mem_append_right _ List.mem_cons_self)
  obtain ⟨eA, nA, neA, nfA, dA⟩ := I.pin pa (List.mem_append_right _ (List.mem_cons_of_mem _ List.mem_cons_self))
  have I0 : Inv Xc pins σ H s := I.pins_of fun p hp => I.pin p (List.mem_append_right _ (List.mem_cons_of_mem _ (List.mem_cons_of_mem _ hp)))
  have inch : ∀ b, b ∈ (List.range s.heap.objs.size).filter (fun b => decide (L ≤ b)) → L ≤ b := fun b hb => by
    have := (List.mem_filter.mp hb).2
    simpa using this
  have cut : ∀ b o, s.heap.get? b = some o → b ∉ (List.range s.heap.objs.size).filter (fun b => decide (L ≤ b)) → (cutH L s.heap).get? b = some o := fun b o e hb => by
    have hlt : b < L := by
      by_cases c : b < L
      · exact c
      · exact absurd (List.mem_filter.mpr ⟨List.mem_range.mpr (Heap.lt_size e), decide_eq_true (Nat.le_of_not_lt c)⟩) hb
    exact (cutH_at hlt).trans e
  have no : ∀ b : Addr, b ∉ ([] : List Addr) := fun b z => by simp at z
  have U := G.base
  have J : Inv Xc pins σ H' s' := I0.call' (ch := (List.range s.heap.objs.size).filter (fun b => decide (L ≤ b))) G.os
    ⟨fun b o e n hb hc => U.keep b o (cut b o e hc) n hb (no b), fun b o e n hb hc => U.slot b o (cut b o e hc) n hb (no b), fun b o e n hc => U.free b o (cut b o e hc) n (no b), fun b o e hc => U.there b o (cut b o e hc) (no b), U.tups, U.frzs, U.tbls⟩
    G.hok G.bare fun b hb => by
      have hb := inch b hb
      refine ⟨.inr (Nat.le_trans I.ok.above (Nat.le_trans (Nat.le_of_lt hL) hb)), fun z => Nat.lt_irrefl _ (Nat.lt_of_lt_of_le hL (z ▸ hb)), fun x c e => ?_, fun p hp => ?_⟩
      · rw [hcl] at e; cases e
      · exact Nat.ne_of_lt (Nat.lt_of_lt_of_le (hpl p hp) hb)
  refine J.pins_of fun p hp => ?_
  rcases List.mem_cons.mp hp with z | hp
  · rw [z]
    refine ⟨eL', G.free, neL, nfL, fun v q => ?_⟩
    obtain ⟨es, ep, d⟩ := hlo.1
    have q : oL'.data = _ := q
    rw [d] at q; cases q
  · rcases List.mem_cons.mp hp with z | hp
    · obtain ⟨e1, e2, _, _, _⟩ := G.pin p (by rw [z]; exact List.mem_append_left _ (List.mem_singleton.mpr rfl))
      rw [z] at e1 e2 ⊢
      exact ⟨e1, e2, neA, nfA, dA⟩
    · exact J.pin p (List.mem_append_right _ hp)
end
end K7

/-! numerals_from, walked by a for that leaves it at the third numeral: the generator's turns. -/
namespace K7
open PySem PySem.Spec PyProof.Rows L2 StX GenW
/-- a numeral is handed out; n: so many may still come -/
def YN (Xc : Cx) (L : Addr) (pa : Addr × Obj) (pins : List (Addr × Obj)) (C : Addr) (bs : List Int) (v : Int) (Φ : Nat → L2.St → Hp → Prop) : Protocol := fun n _ val s kap =>
  ∃ oL r σ H0 H, val = .ref r ∧ Inv Xc ((L, oL) :: pa :: pins) σ H s ∧ Φ n σ H0 ∧ Same H0 H ∧ NumAt C H r bs (v + (2 - (n : Int))) ∧
    ∀ m s' σ' H', n = m + 1 → Inv Xc ((L, oL) :: pa :: pins) σ' H' s' → Φ m σ' H' → kap (.send .none) s'
section
variable {Xc : Cx} {Aw : Around} {L fF : Addr} {cdv : Value} {pa : Addr × Obj} {pins : List (Addr × Obj)} {C CO CU p q : Addr} {bs : List Int} {v u : Int} {Φ : Nat → L2.St → Hp → Prop} {R : GenEnd}
theorem passF {s : Shared} {H : Hp} : Passes (L2.CX Xc.prog Xc.w) (rcx Xc Aw L fF cdv pa s H) (fun _ _ _ => False) := fun pins σ H s e s' I c => by
  obtain ⟨_, _, _, _, _, _, _, _, _, _, _, _, hW⟩ := c
  exact hW.elim
abbrev stG (p q : Addr) (x : Option V) : L2.St := [some (.ref p), some (.ref q), x]
theorem turnsN (T : NTy Xc.K Xc.mg C) (mM : MethF Xc.prog Xc.w Xc.K Xc.mg Xc.base C (L2.CX Xc.prog Xc.w) 6 "made" (spMade C CO)) (hr : Room 6 (Aw.deeper (genv L fF cdv)))
    (hL : Xc.env.locals < L) (hpa : L < pa.1) (hfr : Aw.frames = some Xc.stack) (hpl : ∀ p ∈ Xc.pn ++ pins, p.1 < L) (hcl : Xc.env.cells = []) (hv : 0 ≤ v) (hvu : v + 2 ≤ u) (hu : u < prd bs)
    (hΦ : ∀ n σ H, Φ n σ H → NumAt C H p bs v ∧ NumAt C H q bs u) {test : Expr} {body : List Stmt} {pos : Pos} (hb : (defBody sFrom)[2]? = some (.While test body [] pos))
    {k : Result → Sem PySem.Fin} {g : Bool} {l kp : List Value} {c : Code} {p0 : Pos} (hg : g = false) (hov : ∀ c' : Code, c'.weight = 0 → c'.cUnits = 0 → Aw.over c' [.ret k none g l c p0 kp] = Aw.deeper (genv L fF cdv)) :
    ∀ (n : Nat) (s₀ s : Shared) (σ : L2.St) (H : Hp) (oL : Obj), n ≤ 2 → Inv Xc ((L, oL) :: pa :: pins) σ H s → LocO L fF cdv (stG p q (some (.int (v + (2 - (n : Int)))))) oL → Φ n σ H →
      Seg (model Xc.prog Xc.w) Aw R (YN Xc L pa pins C bs v Φ) (n + 1) s₀ (.whileLoop test body [] (genv L fF cdv)) ((model Xc.prog Xc.w).den (.whileLoop test body [] (genv L fF cdv))) [.ret k none g l c p0 kp] s := by
  obtain ⟨fM, FM, MM⟩ := mM
  injection hb with hb
  injection hb with e1 e2 e3 e4
  subst e1 e2
  subst hg
  intro n
  induction n using Nat.strongRecOn with
  | ind n ih =>
    intro s₀ s σ H oL hn I hlo hf
    obtain ⟨hp, hq⟩ := hΦ n σ H hf
    have G := up I hL hpa hfr hr.hd hlo rfl
    obtain ⟨dx, dt, bt, i1, i2, i3, ok, v0, v1⟩ := id hp
    obtain ⟨dy, et, ct', j1, j2, j3, _, u0, u1⟩ := id hq
    refine seg_whileLoop ?_
    rw [hov _ rfl rfl]
    refine wpAny_mono ((pt_cmpR (X := rcx Xc Aw L fF cdv pa s H) op_le (pv 2) (pe_fld (f := "value") (pv 1) rfl) (nomark _)).run [] s _ H (fun b H1 => b = true ∧ H1 = H) G ?_) (fun b s1 hb => ?_) fun _ _ h => h.elim
    · refine ⟨_, rfl, _, rfl, q, C, dy, _, _, rfl, j1, T.cl, T.nV, nf_value _ _ _, _, _, rfl, rfl, _, rfl, ?_, rfl⟩
      exact decide_eq_true (by omega)
    obtain ⟨H1, G1, rfl, rfl⟩ := hb
    rw [if_pos rfl]
    refine seg_execs_cons ?_
    refine seg_Expr_Yield rfl rfl rfl ?_
    rw [hov _ rfl rfl]
    refine wpAny_mono ((pe_methR (X := rcx Xc Aw L fF cdv pa s H1) (pv 0) T.cl MM FM hr passF (by exact (pa_cons (pv 2) pa_nil))).run [] s1 _ H1 (fun x H2 => ∃ r, x = .ref r ∧ Same H1 H2 ∧ NumAt C H2 r bs (v + (2 - (n : Int)))) G1 ?_) (fun x s2 hx => ?_) fun _ _ h => h.elim
    · refine ⟨_, rfl, p, dx, _, rfl, i1, nf_no _ _ _ (by decide +kernel) (by decide +kernel) (by decide +kernel), _, rfl, p, bs, v, v + (2 - (n : Int)), rfl, hp, fun _ => ?_, fun z => (z ⟨by omega, by omega⟩).elim⟩
      intro H2 r S2 _ hN
      exact ⟨r, rfl, S2, hN⟩
    obtain ⟨_, H2, G2, rx, r, rfl, S2, hN⟩ := hx
    cases (show x = Value.ref r from rx)
    intro kap hk
    obtain ⟨oL2, hlo2, I2⟩ := down I hL hpa hpl hcl G2
    refine ⟨oL2, r, σ, H1, H2, rfl, I2, hf, S2, hN, fun m s' σ' H' e I' f' => hk .none s' ?_⟩
    subst e
    have G' := up I' hL hpa hfr hr.hd hlo2 rfl
    show Seg _ _ _ _ _ _ _ _ _ _
    refine seg_execs_cons ?_
    refine seg_wrap ?_
    rw [hov _ rfl rfl]
    refine wpAny_mono ((ps_aug (X := rcx Xc Aw L fF cdv pa s' H') (i := 2) scFr.nd rfl (Or.inl rfl) pe_int iop_add).run [] s' _ H' { nx := fun σ2 H2 => σ2 = stG p q (some (.int (v + (2 - (m : Int))))) ∧ H2 = H', rt := fun _ _ => False } G' ?_) (fun f s3 hs => ?_) fun _ _ h => h.elim
    · refine ⟨_, rfl, _, _, rfl, rfl, ?_, rfl⟩
      show [_, _, some (V.int (v + (2 - ((m + 1 : Nat) : Int)) + 1))] = _
      rw [show v + (2 - ((m + 1 : Nat) : Int)) + 1 = v + (2 - (m : Int)) by omega]
    cases f with
    | next =>
      obtain ⟨σ3, H3, G3, rfl, rfl⟩ := hs
      obtain ⟨oL3, hlo3, I3⟩ := down I' hL hpa hpl hcl G3
      exact seg_execs_nil (seg_again rfl (ih m (Nat.lt_succ_self m) _ s3 σ' H3 oL3 (by omega) I3 hlo3 f'))
    | brk => obtain ⟨_, _, _, q⟩ := hs; exact False.elim q
    | cont => obtain ⟨_, _, _, q⟩ := hs; exact False.elim q
    | ret z => obtain ⟨_, _, _, _, _, q⟩ := hs; exact False.elim q
theorem startN (T : NTy Xc.K Xc.mg C) (mL : MethF Xc.prog Xc.w Xc.K Xc.mg Xc.base C (L2.CX Xc.prog Xc.w) 2 "need_like" (spLike C CU)) (mM : MethF Xc.prog Xc.w Xc.K Xc.mg Xc.base C (L2.CX Xc.prog Xc.w) 6 "made" (spMade C CO)) (hr : Room 6 (Aw.deeper (genv L fF cdv)))
    (hL : Xc.env.locals < L) (hpa : L < pa.1) (hfr : Aw.frames = some Xc.stack) (hpl : ∀ p ∈ Xc.pn ++ pins, p.1 < L) (hcl : Xc.env.cells = []) (hv : 0 ≤ v) (hvu : v + 2 ≤ u) (hu : u < prd bs)
    (hΦ : ∀ n σ H, Φ n σ H → NumAt C H p bs v ∧ NumAt C H q bs u) {s₀ s : Shared} {σ : L2.St} {H : Hp} {oL : Obj} (I : Inv Xc ((L, oL) :: pa :: pins) σ H s) (hlo : LocO L fF cdv (stG p q none) oL) (hf : Φ 2 σ H) :
    Seg (model Xc.prog Xc.w) Aw R (YN Xc L pa pins C bs v Φ) 3 s₀ (.func (defBody sFrom) (genv L fF cdv)) ((model Xc.prog Xc.w).den (.func (defBody sFrom) (genv L fF cdv))) [] s := by
  obtain ⟨fL, FL, ML⟩ := mL
  obtain ⟨hp, hq⟩ := hΦ 2 σ H hf
  have G := up I hL hpa hfr hr.hd hlo rfl
  obtain ⟨dx, dt, bt, i1, i2, i3, ok, v0, v1⟩ := id hp
  refine seg_func ?_
  refine seg_execs_cons ?_
  refine seg_wrap ?_
  rw [over_func]
  refine wpAny_mono ((ps_expr (pe_methR (X := rcx Xc Aw L fF cdv pa s H) (pv 0) T.cl ML FL (hr.mono (by decide)) passF (by exact (pa_cons (pv 1) pa_nil)))).run [] s _ H { nx := fun σ2 H2 => σ2 = stG p q none ∧ H2 = H, rt := fun _ _ => False } G ?_) (fun f s1 hs => ?_) fun _ _ h => h.elim
  · exact ⟨_, rfl, p, dx, _, rfl, i1, nf_no _ _ _ (by decide +kernel) (by decide +kernel) (by decide +kernel), _, rfl, p, q, bs, bs, v, u, rfl, hp, hq, fun _ => ⟨rfl, rfl⟩, fun z => (z rfl).elim⟩
  cases f with
  | brk => obtain ⟨_, _, _, q⟩ := hs; exact False.elim q
  | cont => obtain ⟨_, _, _, q⟩ := hs; exact False.elim q
  | ret z => obtain ⟨_, _, _, _, _, q⟩ := hs; exact False.elim q
  | next =>
    obtain ⟨σ1, H1, G1, rfl, rfl⟩ := hs
    refine seg_execs_cons ?_
    refine seg_wrap ?_
    rw [over_func]
    refine wpAny_mono ((ps_set (X := rcx Xc Aw L fF cdv pa s H1) (i := 2) scFr.nd rfl (Or.inl rfl) (pe_fld (pv 0) rfl)).run [] s1 _ H1 { nx := fun σ2 H2 => σ2 = stG p q (some (.int (v + (2 - ((2 : Nat) : Int))))) ∧ H2 = H1, rt := fun _ _ => False } G1 ?_) (fun f s2 hs => ?_) fun _ _ h => h.elim
    · refine ⟨_, rfl, p, C, dx, _, _, rfl, i1, T.cl, T.nV, nf_value _ _ _, ?_, rfl⟩
      show [_, _, some (V.int v)] = _
      rw [show v + (2 - ((2 : Nat) : Int)) = v by omega]
    cases f with
    | brk => obtain ⟨_, _, _, q⟩ := hs; exact False.elim q
    | cont => obtain ⟨_, _, _, q⟩ := hs; exact False.elim q
    | ret z => obtain ⟨_, _, _, _, _, q⟩ := hs; exact False.elim q
    | next =>
      obtain ⟨σ2, H2, G2, rfl, rfl⟩ := hs
      obtain ⟨oL2, hlo2, I2⟩ := down I hL hpa hpl hcl G2
      refine seg_execs_cons ?_
      refine seg_While fun p0 => ?_
      exact turnsN T mM hr hL hpa hfr hpl hcl hv hvu hu hΦ (hb := rfl) (hg := rfl) (hov := fun c' a b => (over_loop a b).trans over_func) 2 s₀ s2 σ H2 oL2 (Nat.le_refl _) I2 hlo2 hf
end
end K7

/-! The walker. -/
namespace K7
open PySem PySem.Spec PyProof.Rows L2 StX GenW
theorem gensI {X : Cx} {pins : List (Addr × Obj)} {σ : L2.St} {H : Hp} {s : Shared} {G : Array GenState} (I : Inv X pins σ H s) (hb : AllBare G) : Inv X pins σ H { s with gens := G } :=
  ⟨I.ok, I.os, hb, I.base, I.loc, I.cell, I.free, I.freeC, I.pin, I.hok, I.len⟩
/-- a local name is stored; the generators stay -/
theorem store_g {X : Cx} {pins : List (Addr × Obj)} {σ : L2.St} {H : Hp} {s : Shared} {A : Around} {M : Model} {E : Value → Shared → Prop} {Q : Unit → Shared → Prop} {i : Nat} {x : Str} {v : V} {u : Value} (I : Inv X pins σ H s) (hN : X.N.Nodup) (hi : X.N[i]? = some x) (hk : X.env.scope.names.lookup x = some .local) (hcl : X.env.cells = []) (r : RelV v u)
    (h : ∀ h' tk, Inv X pins (σ.set i (some v)) H { s with heap := h', toks := tk } → Q () { s with heap := h', toks := tk }) : wpAny M A (storeName X.env x u) Q E s := by
  obtain ⟨m, hn, hl⟩ := id I.loc
  have noc : ∀ (y : Str) (c : Addr), X.env.cells.lookup y = some c → False := fun y c e => by
    rw [hcl] at e; cases e
  refine wpAny_storeName_local hk hn (fun h' hn' hs => h h' _ ?_) (by rw [I.ok.kind]; rfl)
  obtain ⟨oL, _, _, hoL, _⟩ := id hn
  have old : ∀ b o, X.s_0.heap.get? b = some o → h'.get? b = s.heap.get? b := fun b o e => hs.2 b (Nat.ne_of_lt (Nat.lt_of_lt_of_le (Heap.lt_size e) I.ok.above))
  have ne : ∀ b y, H b = some y → b ≠ X.env.locals := fun b y e z => by
    rw [z, I.free] at e; cases e
  have U := I.base
  refine ⟨I.ok, I.os, I.bare, ⟨?_, ?_, U.free, ?_, U.tups, U.frzs, U.tbls⟩, ⟨_, hn', ?_⟩, fun y c e => (noc y c e).elim, I.free, I.freeC, fun p hp => ?_, fun b y e => ?_, by rw [List.length_set]; exact I.len⟩
  · intro b o e n hb hx
    exact (old b o e).trans (U.keep b o e n hb hx)
  · intro b o e n hb hx
    obtain ⟨sl, q⟩ := U.slot b o e n hb hx
    exact ⟨sl, (old b o e).trans q⟩
  · intro b o e hx
    obtain ⟨o', q⟩ := U.there b o e hx
    exact ⟨o', (old b o e).trans q⟩
  · intro j y w e1 e2 e3
    have hiσ : i < σ.length := by rw [I.len]; exact (List.getElem?_eq_some_iff.mp hi).1
    by_cases c : i = j
    · subst c
      cases hi.symm.trans e1
      rw [List.getElem?_set_self hiσ] at e2
      cases e2
      exact ⟨u, r, .inl ⟨hk, if_pos (by simp)⟩⟩
    · rw [List.getElem?_set_ne c] at e2
      obtain ⟨u', r', q⟩ := hl j y w e1 e2 e3
      refine ⟨u', r', ?_⟩
      rcases q with ⟨k1, k2⟩ | ⟨_, c', k3, _⟩
      · refine .inl ⟨k1, ?_⟩
        have nxy : y ≠ x := fun z => c (nodup_ix hN hi (z ▸ e1))
        simp [nxy, k2]
      · exact (noc _ _ k3).elim
  · obtain ⟨q1, q2, q3, q4, q5⟩ := I.pin p hp
    exact ⟨(hs.2 p.1 q3).trans q1, q2, q3, q4, q5⟩
  · refine (I.hok b y e).stay (fun c z hc q => (hs.2 c ?_).trans q) (fun _ q => q) fun _ _ q => q
    rcases hc with hc | hc
    · rw [hc]; exact ne b y e
    · exact ne c _ hc
/-- what a call of numerals_from gives its walker -/
def MadeN (X : Cx) (pins : List (Addr × Obj)) (σ : L2.St) (H : Hp) (fF : Addr) (cdv : Value) (p q : Addr) (val : Value) (s' : Shared) : Prop :=
  ∃ (L : Addr) (oL go : Obj) (a : Addr) (g : Nat), val = .ref a ∧ Inv X ((L, oL) :: (a, go) :: pins) σ H s' ∧ LocO L fF cdv (stG p q none) oL ∧ X.env.locals < L ∧ L < a ∧ (∀ p ∈ X.pn ++ pins, p.1 < L) ∧
    (∀ h : Heap, h.get? a = some go → h.IsGen a g) ∧ s'.gens[g]? = some (.fresh (.func (defBody sFrom) (genv L fF cdv)))
section
variable {X : Cx} {pins : List (Addr × Obj)} {σ : L2.St} {H : Hp} {s : Shared} {fF : Addr} {K : PySem.W.Frag}
theorem make_n {oc : Value} {od : Option Addr} {kV doc pm ct cdv : Value} {an : Option Addr} {osl : Array (Option Value)} {fd : FuncData} (efd : fd = PySem.W.fnOf "numerals_from" "numerals_from" (defArgs sFrom) (defBody sFrom) (defScope sFrom) .none kV doc pm an cdv ct)
    (lk : X.K.lookup fF = some ⟨oc, od, .func fd, osl⟩) (hcd : PySem.W.codeIn X.K cdv "numerals_from" = true)
    (bF : Binds X.K fd ["low", "high"] []) (hr : Room 1 X.A) (I : Inv X pins σ H s) {us : List Value} {p q : Addr} (r : Vals [.ref p, .ref q] us) {E : Value → Shared → Prop} :
    wpAny (model X.prog X.w) X.A (call (.ref fF) us) (MadeN X pins σ H fF cdv p q) E s := by
  have e0 := I.env0
  have lim := I.nolimit
  have KX := I.kIn
  have hl : ([V.ref p, V.ref q] : List V).length = (["low", "high"] : List Str).length := rfl
  have hl2 : us.length = (["low", "high"] : List Str).length := by rw [← r.length]; rfl
  have hb := bF s us KX (by simpa using hl2)
  rw [List.append_nil] at hb
  subst efd
  have hkind : ∀ y ∈ (["low", "high"] : List Str).zip us, (defScope sFrom).names.lookup y.1 = some .local ∨ ((defScope sFrom).names.lookup y.1 = some .cell ∧ ((cellsFrom (s.heap.objs.size + 1) (defScope sFrom).names []).lookup y.1).isSome = true) := fun ⟨n, v⟩ hy => by
    rcases scFr.par n (List.of_mem_zip hy).1 with q | q
    · exact .inl q
    · exact .inr ⟨q, PySem.W.cellsFrom_some _ _ _ (.inl q)⟩
  refine wpAny_call ?_
  refine codeAny_call_generator hr.depth (KX _ _ lk) rfl scFr.co scFr.gen rfl (PySem.W.codeRec_of KX hcd) (hb _ _ _ _ ?_)
  refine wpAny_newFunctionEnv_cells scFr.kind hkind fun env he s1 x => ?_
  subst he
  refine ⟨lim.keeps x.toInCall.keep, ?_⟩
  have I1 := inv_startG (E := fun _ _ _ => False) scFr hr.hd e0 hl r x
  obtain ⟨oL, eL, hlo⟩ := loc_of (L := s.heap.objs.size) (fF := fF) (cdv := cdv) I1 rfl rfl
  obtain ⟨h1, tk, es1, hk1⟩ := x.done
  have os1 : s1.os = s.os := by rw [es1]
  have gen1 : s1.gens = s.gens := by rw [es1]
  have lt1 : s.heap.objs.size < s1.heap.objs.size := x.toInCall.ns.lt
  have kp1 : ∀ b o, s.heap.get? b = some o → s1.heap.get? b = some o := x.toInCall.keep
  have main : ∀ (go : Obj) (nm qn : Value) (tk2 : Nat), go.cls = .type "generator" → go.data = .fields #[.int s1.gens.size 0, nm, qn] → go.slots = #[] → (∀ h : Heap, (h.push go).get? h.objs.size = some go) →
      MadeN X pins σ H fF cdv p q (.ref s1.heap.objs.size) { s1 with gens := s1.gens.push (.fresh (.func (defBody sFrom) (genv s.heap.objs.size fF cdv))), toks := tk2, heap := s1.heap.push go } := by
    intro go nm qn tk2 hgc hgd hgs hgp
    have kp : ∀ b o, s.heap.get? b = some o → (s1.heap.push go).get? b = some o := fun b o e => Heap.get?_push_of_some _ (kp1 b o e)
    have I2 : Inv X pins σ H { s1 with gens := s1.gens.push (.fresh (.func (defBody sFrom) (genv s.heap.objs.size fF cdv))), toks := tk2, heap := s1.heap.push go } :=
      I.call' (ch := []) os1 (Un.kept kp) (I.hok.kept kp) (AllBare.push (by rw [gen1]; exact I.bare) rfl) fun b z => by simp at z
    have young : ∀ b, s.heap.objs.size ≤ b → H b = none ∧ b ≠ X.env.locals ∧ b ∉ X.fs := fun b hb => ⟨I.hok.fresh hb, Nat.ne_of_gt (Nat.lt_of_lt_of_le I.lt hb), I.nofs hb⟩
    refine ⟨s.heap.objs.size, oL, go, s1.heap.objs.size, s1.gens.size, rfl, I2.pins_of fun z hz => ?_, hlo, I.lt, lt1, fun z hz => Heap.lt_size (I.pin z hz).1, fun h e => ⟨go, nm, qn, e, hgc, hgd, hgs⟩, Array.getElem?_push_size ..⟩
    rcases List.mem_cons.mp hz with e | hz
    · obtain ⟨y1, y2, y3⟩ := young s.heap.objs.size (Nat.le_refl _)
      rw [e]
      refine ⟨Heap.get?_push_of_some _ eL, y1, y2, y3, fun v w => ?_⟩
      obtain ⟨es, ep, d⟩ := hlo.1
      have w : oL.data = _ := w
      rw [d] at w; cases w
    · rcases List.mem_cons.mp hz with e | hz
      · obtain ⟨y1, y2, y3⟩ := young s1.heap.objs.size (Nat.le_of_lt lt1)
        rw [e]
        refine ⟨hgp _, y1, y2, y3, fun v w => ?_⟩
        have w : go.data = _ := w
        rw [hgd] at w; cases w
      · exact I2.pin z (List.mem_append_right _ hz)
  exact main _ _ _ _ rfl rfl rfl fun h => Heap.get?_push_size _ rfl
/-- for x in numerals_from(..), left by break at the third numeral at the latest -/
def tFor3 (C : Addr) (ta : TA) (i : Nat) (tb : TS) : TS := fun D σ H => ta σ H fun vs H1 => ∃ (p q : Addr) (bs : List Int) (v u : Int), vs = [.ref p, .ref q] ∧ 0 ≤ v ∧ v + 2 ≤ u ∧ u < prd bs ∧ ∃ Φ : Nat → L2.St → Hp → Prop, Φ 2 σ H1 ∧
  (∀ n σ H, Φ n σ H → NumAt C H p bs v ∧ NumAt C H q bs u) ∧ ∀ n σ0 H0 H2 r, n ≤ 2 → Φ n σ0 H0 → Same H0 H2 → NumAt C H2 r bs (v + (2 - (n : Int))) →
    tb { nx := fun σ' H' => ∃ m, n = m + 1 ∧ Φ m σ' H', ct := fun σ' H' => ∃ m, n = m + 1 ∧ Φ m σ' H', bk := D.nx, rt := fun _ _ => False } (σ0.set i (some (.ref r))) H2
theorem ps_for3 {C CO CU : Addr} {fd : FuncData} (FF : Fun X.K "numerals_from" "numerals_from" sFrom fF fd) (bF : Binds X.K fd ["low", "high"] []) (kF : PySem.W.keepIn X.K (.ref fF) = true) (mgF : X.mg "numerals_from" = some (.ref fF))
    (T : NTy X.K X.mg C) (mL : MethF X.prog X.w X.K X.mg X.base C (L2.CX X.prog X.w) 2 "need_like" (spLike C CU)) (mM : MethF X.prog X.w X.K X.mg X.base C (L2.CX X.prog X.w) 6 "made" (spMade C CO)) (hr : Room 8 X.A)
    (hp : PassesOwn (model X.prog X.w) X.A X.env X.xe) (hcl : X.env.cells = []) (hN : X.N.Nodup) {i : Nat} {x : Str} (hi : X.N[i]? = some x) (hk : X.env.scope.names.lookup x = some .local)
    {e : Expr} {es : List Expr} {ta : TA} {tb : TS} {body : List Stmt} {xp pn pc pos : Pos} (ha : PA X (e :: es) ta) (hb : PSsg X body tb) (hg : Gl X "numerals_from" := by rfl)
    (he : starEach (e :: es) X.env = (false, eval e X.env) :: starEach es X.env := by rfl) (hpl : (backTo pc (starEach es X.env)).any (·.1) = false := by rfl)
    (hs : ∀ y, foldedSetIterable (.Call (.Name "numerals_from" pn) (e :: es) [] pc) X.env y = pure y := by intro _; rfl) :
    PS X (.For (.Name x xp) (.Call (.Name "numerals_from" pn) (e :: es) [] pc) body [] pos) (tFor3 C ta i tb) := by
  obtain ⟨oc, od, kV, doc, pm, an, cdv, ct, osl, efd, lk, hcd⟩ := FF.ex
  refine ⟨fun pins s σ H D I h => ?_⟩
  refine wpAny_For (thn (Q := fun val s' => ∃ (p q : Addr) (bs : List Int) (v u : Int) (H1 : Hp), (0 ≤ v ∧ v + 2 ≤ u ∧ u < prd bs ∧ ∃ Φ : Nat → L2.St → Hp → Prop, Φ 2 σ H1 ∧
    (∀ n σ H, Φ n σ H → NumAt C H p bs v ∧ NumAt C H q bs u) ∧ ∀ n σ0 H0 H2 r, n ≤ 2 → Φ n σ0 H0 → Same H0 H2 → NumAt C H2 r bs (v + (2 - (n : Int))) →
      tb { nx := fun σ' H' => ∃ m, n = m + 1 ∧ Φ m σ' H', ct := fun σ' H' => ∃ m, n = m + 1 ∧ Φ m σ' H', bk := D.nx, rt := fun _ _ => False } (σ0.set i (some (.ref r))) H2) ∧ MadeN X pins σ H1 fF cdv p q val s') ?_ fun val s2 hm => ?_) hs
  · refine wpAny_Call_Name_kw (ld_glob I hg mgF ?_ (by decide))
    refine PySem.W.callWith_K (h₀ := X.base) I.ok.mod.kin kF (thn (ha.run pc pins s σ H _ I h) fun us s1 ⟨vs, H1, I1, r, p, q, bs, v, u, ev, z⟩ => ⟨I1.kIn, ?_⟩) he hpl
    subst ev
    exact thn (make_n efd lk hcd bF (hr.mono (by decide)) I1 r) fun val s' z' => ⟨p, q, bs, v, u, H1, z, z'⟩
  · obtain ⟨p, q, bs, v, u, H1, ⟨hv, hvu, hu, Φ, f2, hΦ, hbody⟩, L, oL, go, a, g, rfl, I2, hlo, hL, hLa, hpn, hgen, hgs⟩ := hm
    have genA : ∀ {oL : Obj} {σ : L2.St} {H : Hp} {s' : Shared}, Inv X ((L, oL) :: (a, go) :: pins) σ H s' → s'.heap.IsGen a g := fun {oL σ H s'} J => hgen _ (J.pin (a, go) (List.mem_append_right _ (List.mem_cons_of_mem _ List.mem_cons_self))).1
    have hfr : X.A.in1.frames = some X.stack := I2.ok.frames
    have hrG : Room 6 (X.A.in1.deeper (genv L fF cdv)) := (hr.in1).deeper _
    refine wpAny_pyIter_gen (genA I2) ?_
    refine codeAny_forLoop_any (fun n s' => n ≤ 2 ∧ ∃ oL σ' H' gs, Inv X ((L, oL) :: (a, go) :: pins) σ' H' s' ∧ Φ n σ' H' ∧ s'.gens[g]? = some gs ∧
      gs.Goes (model X.prog X.w) X.A.in1 (fun n s₀ r s₁ => ((r = .ok (.ret .none) ∨ r = .ok .next) ∧ False) ∨ ∃ e, r = .error e ∧ False) (YN X L (a, go) pins C bs v Φ) (n + 1) (.send .none) (s'.setGen g .running)) ?_ 2 ?_
    · rintro n s3 ⟨hn, oL3, σ3, H3, gs, I3, f3, hgs3, hgo⟩
      have hgl : g < s3.gens.size := (Array.getElem?_eq_some_iff.mp hgs3).1
      refine wpAny_passesOwn hp (wpAny_gsz (n := g + 1) hgl (next_genG (A := X.A) hr.hd I3.nolimit hr.depth (genA I3) hgs3 hgo (fun val s4 gs' hbare hv => ?_) (fun _ hp _ _ => hp.elim) fun _ _ he => he.elim))
      intro hsz
      obtain ⟨oL4, r, σ4, H0, H4, rfl, I4, f4, S4, N4, kap⟩ := hv
      have hg4 : g < s4.gens.size := by
        have q : (s4.setGen g gs').gens.size = s4.gens.size := setGen_size s4 g gs'
        rw [q] at hsz; exact hsz
      have I5 : Inv X ((L, oL4) :: (a, go) :: pins) σ4 H4 (s4.setGen g gs') := gensI I4 (allBare_setGen I4.bare hbare)
      refine wpAny_pure (wpAny_assign_Name ?_)
      refine store_g (v := .ref r) I5 hN hi hk hcl rfl fun h' tk I6 => ?_
      refine wpAny_passesOwn hp (thn (hb.run _ _ _ H4 _ I6 (hbody n σ4 H0 H4 r hn f4 S4 N4)) fun f s7 ⟨hg7, q7⟩ => ?_)
      have again : ∀ {σ7 : L2.St} {H7 : Hp}, Inv X ((L, oL4) :: (a, go) :: pins) σ7 H7 s7 → (∃ m, n = m + 1 ∧ Φ m σ7 H7) → ∃ m, m < n ∧ (m ≤ 2 ∧ ∃ oL σ' H' gs, Inv X ((L, oL) :: (a, go) :: pins) σ' H' s7 ∧ Φ m σ' H' ∧ s7.gens[g]? = some gs ∧
          gs.Goes (model X.prog X.w) X.A.in1 (fun n s₀ r s₁ => ((r = .ok (.ret .none) ∨ r = .ok .next) ∧ False) ∨ ∃ e, r = .error e ∧ False) (YN X L (a, go) pins C bs v Φ) (m + 1) (.send .none) (s7.setGen g .running)) := fun {σ7 H7} I7 ⟨m, em, f7⟩ => by
        subst em
        refine ⟨m, Nat.lt_succ_self m, by omega, oL4, σ7, H7, gs', I7, f7, ?_, ?_⟩
        · rw [hg7]
          exact setGen_at hg4
        · exact kap m _ σ7 H7 rfl (gensI I7 (allBare_setGen I7.bare rfl)) f7
      cases f with
      | next => obtain ⟨σ7, H7, I7, z⟩ := q7; exact again I7 z
      | cont => obtain ⟨σ7, H7, I7, z⟩ := q7; exact again I7 z
      | brk => obtain ⟨σ7, H7, I7, z⟩ := q7; exact ⟨σ7, H7, I7.pins_of fun z hz => I7.pin z (List.mem_append_right _ (List.mem_cons_of_mem _ (List.mem_cons_of_mem _ hz))), z⟩
      | ret v => obtain ⟨_, _, _, _, _, z⟩ := q7; exact False.elim z
    · have I3 : Inv X ((L, oL) :: (a, go) :: pins) σ H1 (s2.setGen g .running) := gensI I2 (allBare_setGen I2.bare rfl)
      exact ⟨Nat.le_refl _, oL, σ, H1, _, I2, f2, hgs, rfl, startN T mL mM hrG hL hLa hfr hpn hcl hv hvu hu hΦ I3 hlo f2⟩
end
end K7

/-! _law_at_once. -/
namespace K7
open PySem PySem.Spec PyProof.Rows L2 StX
def HU : List Int := [100, 100, 100, 100]
theorem okHU : OkB HU := ⟨by decide, by decide, fun x hx => by have : x = 100 := by simpa [HU] using hx
                                                               omega⟩
theorem prHU : prd HU = 100000000 := by decide
theorem cells0 {L f : Addr} {cd : Value} : (envOfC "_law_at_once" (defScope sAtOnce) L f cd).cells = [] := by kernel_rfl
section
variable {P : Program} {w : World} {K : PySem.W.Frag} {mg : Str → Option Value} {base : Heap} {C CO CU : Addr}
theorem scOn : FnScope ["_law_pen_here", "_law_low_here", "_law_first", "_law_last", "_law_found", "_law_numeral"] ["_law_pen_here"] (defScope sAtOnce) := ⟨rfl, rfl, rfl, by decide +kernel, rfl, by decide +kernel, by decide +kernel⟩
theorem ok_once {f fF : Addr} {fd fdF : FuncData} (F : Fun K "_law_at_once" "_law_at_once" sAtOnce f fd) (B : Bi mg) (T : NTy K mg C) (OF : OfT P w K mg base C) (cT : CallF P w K mg base CX0 1 "_law_take" spTake)
    (FF : Fun K "numerals_from" "numerals_from" sFrom fF fdF) (bF : Binds K fdF ["low", "high"] []) (kF : PySem.W.keepIn K (.ref fF) = true) (mgF : mg "numerals_from" = some (.ref fF))
    (mL : MethF P w K mg base C (L2.CX P w) 2 "need_like" (spLike C CU)) (mM : MethF P w K mg base C (L2.CX P w) 6 "made" (spMade C CO)) : FnOk P w K mg base CX0 11 f fd ["_law_pen_here"] spOnce := by
  refine F.ok scOn (fun vs H Q E h => ?_) (fun cdv A outer s H vs Q E hr h => ?_)
  · obtain ⟨p, q, n, rfl, _⟩ := h
    rfl
  · obtain ⟨p, q, n, rfl, hp, hn, k⟩ := h
    have hr1 : Room 1 _ := hr.mono (by decide)
    have hr6 : Room 6 _ := hr.mono (by decide)
    have hr8 : Room 8 _ := hr.mono (by decide)
    have hu : (A.deeper (envOfC "_law_at_once" (defScope sAtOnce) s.heap.objs.size f cdv)).units + 64 < cLine := by have := hr.un; omega
    refine ⟨_, pss_cons (ps_set (i := 1) scOn.nd rfl (Or.inl rfl) (pe_cf cT hr1 L2.pass0 (pa_cons (pv 0) (pa_cons pe_int pa_nil))))
      (pss_cons (ps_set (i := 2) scOn.nd rfl (Or.inl rfl) (pe_of OF T.mgC hr6 (by exact (pa_cons (pv 1) (pa_cons (pe_op op_rep (pe_lst (pa_cons pe_int pa_nil)) pe_int) pa_nil)))))
      (pss_cons (ps_set (i := 3) scOn.nd rfl (Or.inl rfl) (pe_of OF T.mgC hr6 (by exact (pa_cons (pe_op op_sub (pe_op op_pow pe_int pe_int) pe_int) (pa_cons (pe_op op_rep (pe_lst (pa_cons pe_int pa_nil)) pe_int) pa_nil)))))
      (pss_cons (ps_set (i := 4) scOn.nd rfl (Or.inl rfl) (pe_lst pa_nil))
      (pss_cons (ps_for3 (i := 5) FF bF kF mgF T mL mM hr8 PassesOwn.never cells0 scOn.nd rfl rfl (by exact (pa_cons (pv 2) (pa_cons (pv 3) pa_nil)))
        (by exact (pssg_cons (psg_expr (peg_app (peg_var (i := 4)) (peg_fld (peg_var (i := 5)))))
          (pssg_cons (psg_if (ptg_eq (peg_len B.len (peg_var (i := 4))) peg_int (nomark _)) (pssg_cons psg_break pssg_nil) pssg_nil) pssg_nil))))
      (pss_one (ps_ret (pe_cmpR (op_eqL hu) (pv 4) (pe_lst (pa_cons (pv 1) (pa_cons (pe_op op_add (pv 1) pe_int) (pa_cons (pe_op op_add (pv 1) pe_int) pa_nil)))) (nomark _)))))))), ?_⟩
    refine ⟨_, rfl, p, q, 1000, n, rfl, hp, by omega, by decide, by decide, fun H1 v K1 hp1 v0 v1 => ?_⟩
    have hPr := prHU
    refine ⟨rfl, _, rfl, by show 1 ≤ sizeLine; decide, fun m hm => ?_⟩
    refine ⟨m, _, _, rfl, rfl, upd_same, by decide, by decide, by show 1 * 4 ≤ sizeLine; decide, fun D hD => ?_⟩
    refine ⟨v, D, HU, rfl, .inl upd_same, okHU, v0, by omega, fun H2 a S2 na ha => ?_⟩
    refine ⟨rfl, _, _, rfl, rfl, ⟨by decide, by decide, by decide⟩, _, _, rfl, rfl, by show 1 ≤ sizeLine; decide, fun m2 hm2 => ?_⟩
    refine ⟨m2, _, _, rfl, rfl, upd_same, by decide, by decide, by show 1 * 4 ≤ sizeLine; decide, fun D2 hD2 => ?_⟩
    refine ⟨_, D2, HU, rfl, .inl upd_same, okHU, by decide, by decide, fun H3 b S3 nb hb => ?_⟩
    have ha3 : NumAt C H3 a HU v := (ha.same (same_new (same_lay hm2) hD2)).same S3
    refine ⟨Nat.zero_le _, fun l hl => ?_⟩
    have SL := same_lay (o := .lst []) hl
    have hl4 : upd H3 l (.lst []) l = some (.lst []) := upd_same
    have ha4 := ha3.same SL
    have hb4 := hb.same SL
    clear SL
    show tSeq _ _ _ _ (upd H3 l (.lst []))
    revert hl4 ha4 hb4
    generalize upd H3 l (.lst []) = H4
    intro hl4 ha4 hb4
    refine ⟨_, rfl, _, rfl, a, b, HU, v, 99999999, rfl, v0, by omega, by omega, ?_⟩
    refine ⟨fun n σ H => n ≤ 2 ∧ ∃ x, σ = [some (.ref p), some (.int v), some (.ref a), some (.ref b), some (.ref l), x] ∧ H l = some (.lst (((List.range (2 - n)).map fun (j : Nat) => v + (j : Int)).map V.int)) ∧ NumAt C H a HU v ∧ NumAt C H b HU 99999999, ⟨Nat.le_refl _, none, rfl, hl4, ha4, hb4⟩, ?_, ?_⟩
    · rintro n σ H ⟨_, x, _, _, h1, h2⟩
      exact ⟨h1, h2⟩
    · rintro n σ0 H0 H5 r hn2 ⟨_, x, rfl, hl0, ha0, hb0⟩ S5 hN
      have hl5 := S5 _ _ hl0
      have fin : n = 0 → upd H5 l (.lst (((List.range (2 - n)).map fun (j : Nat) => v + (j : Int)).map V.int ++ [V.int (v + (2 - (n : Int)))])) l = some (.lst ([v, v + 1, v + 2].map V.int)) := fun e => by
        subst e
        rw [upd_same]
        show some (HO.lst [V.int (v + ((0 : Nat) : Int)), V.int (v + ((1 : Nat) : Int)), V.int (v + (2 - ((0 : Nat) : Int)))]) = some (HO.lst [V.int v, V.int (v + 1), V.int (v + 2)])
        simp
      have hNl : ∀ (o : HO) (y : Addr) (z : Int), NumAt C H5 y HU z → NumAt C (upd H5 l o) y HU z := fun o y z ⟨dx, dt, bt, h1, h2, h3, h4⟩ => by
        refine ⟨dx, dt, bt, ?_, ?_, ?_, h4⟩
        · rw [upd_ne (fun e => by rw [e, hl5] at h1; cases h1)]; exact h1
        · rw [upd_ne (fun e => by rw [e, hl5] at h2; cases h2)]; exact h2
        · rw [upd_ne (fun e => by rw [e, hl5] at h3; cases h3)]; exact h3
      obtain ⟨dx, dt, bt, i1, i2, i3, ok, _, _⟩ := id hN
      have few : (((List.range (2 - n)).map fun (j : Nat) => v + (j : Int)).map V.int).length = 2 - n := by simp
      refine ⟨_, rfl, l, _, rfl, hl5, ⟨_, rfl, r, C, dx, _, _, rfl, i1, T.cl, T.nV, nf_value _ _ _, hl5, ?_, ?_⟩⟩
      · rw [few]
        exact Nat.lt_of_le_of_lt (show 2 - n ≤ 2 by omega) (by decide)
      have ha6 := hNl (.lst (((List.range (2 - n)).map fun (j : Nat) => v + (j : Int)).map V.int ++ [V.int (v + (2 - (n : Int)))])) _ _ (ha0.same S5)
      have hb6 := hNl (.lst (((List.range (2 - n)).map fun (j : Nat) => v + (j : Int)).map V.int ++ [V.int (v + (2 - (n : Int)))])) _ _ (hb0.same S5)
      refine ⟨_, rfl, l, _, rfl, upd_same, _, _, rfl, rfl, ?_⟩
      have hlen : ((((((List.range (2 - n)).map fun (j : Nat) => v + (j : Int)).map V.int ++ [V.int (v + (2 - (n : Int)))]).length : Nat) : Int) = 3) ↔ n = 0 := by
        rw [List.length_append, few, List.length_singleton]
        omega
      by_cases c : n = 0
      · rw [decide_eq_true (hlen.mpr c)]
        refine iteT ?_
        have hl6 := fin c
        refine ⟨_, rfl, _, rfl, _, rfl, _, _, rfl, rfl, _, rfl, _, _, rfl, rfl, by show 3 ≤ sizeLine; decide, fun e he => ?_⟩
        have nle : l ≠ e := fun z => by rw [← z, hl6] at he; cases he
        refine ⟨l, e, [v, v + 1, v + 2], [v, v + 1, v + 2], rfl, rfl, by rw [upd_ne nle]; exact hl6, upd_same, ?_⟩
        rw [show (false != decide (([v, v + 1, v + 2] : List Int) = [v, v + 1, v + 2])) = true by simp]
        exact k _
      · rw [decide_eq_false (fun z => c (hlen.mp z))]
        refine iteF ?_
        obtain ⟨m, rfl⟩ : ∃ m, n = m + 1 := ⟨n - 1, by omega⟩
        refine ⟨m, rfl, by omega, some (.ref r), rfl, ?_, ha6, hb6⟩
        rw [upd_same]
        have hm : m = 0 ∨ m = 1 := by omega
        rcases hm with rfl | rfl
        · rfl
        · rfl
end
end K7

namespace K7
open PySem PySem.Spec PyProof.Rows L2 StX
/-! ### the end -/
/-- an error of the class is what its own clause names -/
theorem exm_own {K : PySem.W.Frag} {S : Addr} (h1 : PySem.W.subIn K (.ref S) (.type "BaseException") = some true) (h2 : PySem.W.isClsIn K S = true) (h3 : PySem.W.typeIn K (.ref S) = some (.type "type")) (h4 : PySem.W.subIn K (.ref S) (.ref S) = some true) :
    PySem.W.exmOne K (.ref S) (.ref S) = some true := by
  have q1 : (PySem.W.subIn K (.ref S) (.type "BaseException") == some true) = true := by rw [h1] <;> rfl
  have q2 : ((PySem.W.clsIn K S).isSome && PySem.W.typeIn K (.ref S) == some (.type "type")) = true := by
    have q3 : (PySem.W.clsIn K S).isSome = true := h2
    rw [q3, h3] <;> rfl
  unfold PySem.W.exmOne
  rw [if_pos q1]
  show (if ((PySem.W.clsIn K S).isSome && PySem.W.typeIn K (.ref S) == some (.type "type")) = true then PySem.W.subIn K (.ref S) (.ref S) else none) = some true
  rw [if_pos q2]
  exact h4
/-- the promise of law at the heap behind the top -/
theorem law_at {P : Program} {w : World} {K : PySem.W.Frag} {mg mb : Str → Option Value} {fa a : Addr} {s₁ : Shared} {vs : List Value} {ns : List Int} (KX : K.In s₁.heap) (hns : s₁.heap.Ns mainGlobals mg) (hb : s₁.heap.Ns builtinsNs mb) (hbb : ∀ x : Str, x ≠ "__name__" → mb x = bootBuiltins x)
    (hlim : s₁.heap.NoLimit) (hg : s₁.gens = #[]) (ha : s₁.heap.get? a = some { cls := .type "list", data := .seq vs.toArray }) (hi : IntsAre vs ns) (hl : ns.length ≤ sizeLine)
    (F : ∀ base : Heap, K.In base → base.Ns mainGlobals mg → FnG P w K mg base 12 fa (spLaw K)) :
    codeAny (model P w) callerA (.call (.ref fa) ⟨[.ref a], []⟩) (fun r s' => r = .ok (.ret (.bool true)) ∧ OldK s₁.heap s'.heap ∧ s'.os = s₁.os ∧ AllBare s'.gens) s₁ := by
  have rv := vals_ints hi
  have lenV := hi.length
  obtain ⟨ob, hob⟩ : ∃ ob : Obj, ob = { cls := .type "list", data := .seq vs.toArray } := ⟨_, rfl⟩
  rw [← hob] at ha
  obtain ⟨H, hH⟩ : ∃ H : Hp, H = fun b => if b = a ∧ K.lookup a = none then some (.frz ob (.lst (ns.map V.int))) else none := ⟨_, rfl⟩
  have only : ∀ b u, H b = some u → b = a ∧ K.lookup a = none ∧ u = .frz ob (.lst (ns.map V.int)) := fun b u e => by
    rw [hH] at e
    by_cases c : b = a ∧ K.lookup a = none
    · have e2 := (if_pos c).symm.trans e
      cases e2
      exact ⟨c.1, c.2, rfl⟩
    · have e2 := (if_neg c).symm.trans e
      cases e2
  have hS : SqL K H a (ns.map V.int) := by
    cases hk : K.lookup a with
    | none => exact .inl (.inr ⟨ob, by rw [hH]; exact if_pos ⟨rfl, hk⟩⟩)
    | some o =>
      have e := KX a o hk
      rw [ha] at e
      cases e
      exact .inr ⟨ob, vs.toArray, _, hk, by rw [hob], by rw [hob], by rw [hob], by rw [List.size_toArray, lenV]; exact hl, by simpa using rv⟩
  have hok : HOk P w H s₁.heap := fun b u e => by
    obtain ⟨rfl, _, rfl⟩ := only b u e
    exact ⟨ha, by rw [List.length_map]; exact hl, vs, _, rv, by rw [ha, hob]⟩
  have free : ∀ b o, s₁.heap.get? b = some o → (∃ es ep, o.data = .dict es ep) → H b = none := fun b o e ⟨es, ep, d⟩ => by
    cases q : H b with
    | none => rfl
    | some u =>
      obtain ⟨rfl, _, _⟩ := only b u q
      rw [ha] at e
      cases e
      rw [hob] at d
      cases d
  have nsB : ∀ {b : Addr} {m : Str → Option Value}, s₁.heap.Ns b m → (hidT s₁.heap H).Ns b m := fun {b m} ⟨o, es, ep, e, d, r⟩ => ⟨o, es, ep, hidT_get e (free b o e ⟨es, ep, d⟩), d, r⟩
  have KB : K.In (hidT s₁.heap H) := fun b o e => hidT_get (KX b o e) (by
    cases q : H b with
    | none => rfl
    | some u =>
      obtain ⟨rfl, z, _⟩ := only b u q
      rw [z] at e
      cases e)
  have md : Mod K mg (hidT s₁.heap H) := ⟨KB, nsB hns, ⟨mb, nsB hb, hbb⟩, let ⟨mc, h1, h2⟩ := hlim; ⟨mc, nsB h1, h2⟩⟩
  have e0 : Env0 P w K mg (hidT s₁.heap H) callerA [] s₁ H := ⟨rfl, md, fun b o e => of_hidT e, Nat.le_of_eq (hidT_size _ _), trivial, fun b hb => absurd (show b ∈ ([] : List Addr) from hb) (by simp), hok, .of_eq hg⟩
  refine codeAny_mono (F _ KB (nsB hns) callerA [] s₁ H [.ref a] [.ref a] (fun v _ => v = .bl true) ⟨rfl, by decide, by decide⟩ rfl e0 (.cons rfl .nil) ⟨a, ns, rfl, hS, fun _ => rfl⟩) fun r s' h => ?_
  cases r with
  | error e => exact False.elim h
  | ok fl =>
    cases fl with
    | next => exact False.elim h
    | brk => exact False.elim h
    | cont => exact False.elim h
    | ret u =>
      obtain ⟨v, H', os, bare, un, hok', r', q⟩ := h
      cases (show v = .bl true from q)
      cases (show u = Value.bool true from r')
      refine ⟨rfl, OldK.of_keep fun b o e => ?_, os, bare⟩
      cases c : H b with
      | none => exact un.keep b o e c (by intro z; exact absurd (show b ∈ ([] : List Addr) from z) (by simp)) (by simp)
      | some u =>
        obtain ⟨rfl, _, rfl⟩ := only b u c
        have z := (hok' _ _ (un.frzs _ _ _ c)).1
        rw [ha] at e
        cases e
        exact z
theorem walkG {l : PySem.W.OpenLaw} {q : Program} {loose : List Str} {XP : (Str → Option Value) → Heap → Prop} {YP : World → Heap → Prop} {d : DefRec} {K : Params → PySem.W.Frag} (hn : l.most = some 63) (hdf : d.params.defaults = [])
    (hY : ∀ (w : World) (h : Heap), YP w h → (K w.params).In h)
    (F : ∀ (w : World) (mg : Str → Option Value) (fa : Addr) (h : Heap), (K w.params).In h → h.Ns mainGlobals mg → mg d.name = some (.ref fa) →
      ∃ fd : FuncData, ∀ base : Heap, (K w.params).In base → base.Ns mainGlobals mg → FnG l.prog w (K w.params) mg base 12 fa (spLaw (K w.params))) :
    PySem.W.WalkO q loose XP YP l.row.toRowW d [] (fun f vs => PySem.call f vs) := by
  refine Att.attach_call hn hdf fun w s₀ s₁ mg mb fa o pm cd doc a vs ns G Y ho hd hcd hmg hobj hints hlen hg => ?_
  have KX := hY w _ Y
  obtain ⟨fd, hF⟩ := F w mg fa _ KX G.T.g hmg
  exact law_at KX G.T.g G.T.b G.T.builtins G.T.nolimit hg hobj hints (Nat.le_trans hlen (by decide)) hF
theorem all_mk {P : Program} {w : World} {K : PySem.W.Frag} {h : Heap} {mg : Str → Option Value} {fa C CO CU CR pOf gR fIsW fIsB fNee fWei fCnt fSpr fGat fFir fCar fFro fPen fTak fPic fBas fLow fOnc fUnl fBey fSte fRow fLaw fIni fMad fLik fAmo fCha fEqq fAdd fLen fIte fOff fOvi : Addr} (X : K.In h) (G : h.Ns mainGlobals mg) (hfa : mg "law" = some (.ref fa))
    {odIsW anIsW odIsB anIsB odNee anNee odWei anWei odCnt anCnt odSpr anSpr odGat anGat odFir anFir odCar anCar odFro anFro odPen anPen odTak anTak odPic anPic odBas anBas odLow anLow odOnc anOnc odUnl anUnl odBey anBey odSte anSte odRow anRow odLaw anLaw odIni anIni odMad anMad odLik anLik odAmo anAmo odCha anCha odEqq anEqq odAdd anAdd odLen anLen odIte anIte odOff anOff odOvi anOvi : Option Addr} {slIsW slIsB slNee slWei slCnt slSpr slGat slFir slCar slFro slPen slTak slPic slBas slLow slOnc slUnl slBey slSte slRow slLaw slIni slMad slLik slAmo slCha slEqq slAdd slLen slIte slOff slOvi : Array (Option Value)} {ocIsW kVIsW dcIsW pmIsW cdIsW ctIsW ocIsB kVIsB dcIsB pmIsB cdIsB ctIsB ocNee kVNee dcNee pmNee cdNee ctNee ocWei kVWei dcWei pmWei cdWei ctWei ocCnt kVCnt dcCnt pmCnt cdCnt ctCnt ocSpr kVSpr dcSpr pmSpr cdSpr ctSpr ocGat kVGat dcGat pmGat cdGat ctGat ocFir kVFir dcFir pmFir cdFir ctFir ocCar kVCar dcCar pmCar cdCar ctCar ocFro kVFro dcFro pmFro cdFro ctFro ocPen kVPen dcPen pmPen cdPen ctPen ocTak kVTak dcTak pmTak cdTak ctTak ocPic kVPic dcPic pmPic cdPic ctPic ocBas kVBas dcBas pmBas cdBas ctBas ocLow kVLow dcLow pmLow cdLow ctLow ocOnc kVOnc dcOnc pmOnc cdOnc ctOnc ocUnl kVUnl dcUnl pmUnl cdUnl ctUnl ocBey kVBey dcBey pmBey cdBey ctBey ocSte kVSte dcSte pmSte cdSte ctSte ocRow kVRow dcRow pmRow cdRow ctRow ocLaw kVLaw dcLaw pmLaw cdLaw ctLaw ocIni kVIni dcIni pmIni cdIni ctIni ocMad kVMad dcMad pmMad cdMad ctMad ocLik kVLik dcLik pmLik cdLik ctLik ocAmo kVAmo dcAmo pmAmo cdAmo ctAmo ocCha kVCha dcCha pmCha cdCha ctCha ocEqq kVEqq dcEqq pmEqq cdEqq ctEqq ocAdd kVAdd dcAdd pmAdd cdAdd ctAdd ocLen kVLen dcLen pmLen cdLen ctLen ocIte kVIte dcIte pmIte cdIte ctIte ocOff kVOff dcOff pmOff cdOff ctOff ocOvi kVOvi dcOvi pmOvi cdOvi ctOvi : Value}
    {restOf : List Value} {fo ro : Option Value} {tlo thi tmo : Tok} {nmO qO : Str} {NO : Addr} {bsO : List Value} {snO : List Str} {subO : List Value} {abO : Bool} {colO : Option Bool} {ddO : Option Addr} {m0 m1 m2 m3 m5 : Option Value}
    (nC : PySem.W.nsIn K mainGlobals "Numeral" = some (some (.ref C)))
    (nO : PySem.W.nsIn K mainGlobals "Overflow" = some (some (.ref CO)))
    (nU : PySem.W.nsIn K mainGlobals "Unlike" = some (some (.ref CU)))
    (aIsW : PySem.W.nsIn K mainGlobals "is_whole" = some (some (.ref fIsW)))
    (lIsW : K.lookup fIsW = some ⟨ocIsW, odIsW, .func (PySem.W.fnOf "is_whole" "is_whole" (defArgs sIsWhole) (defBody sIsWhole) (defScope sIsWhole) .none kVIsW dcIsW pmIsW anIsW cdIsW ctIsW), slIsW⟩)
    (cIsW : PySem.W.codeIn K cdIsW "is_whole" = true)
    (kIsW : PySem.W.keepIn K (.ref fIsW) = true)
    (aIsB : PySem.W.nsIn K mainGlobals "is_bases" = some (some (.ref fIsB)))
    (lIsB : K.lookup fIsB = some ⟨ocIsB, odIsB, .func (PySem.W.fnOf "is_bases" "is_bases" (defArgs sIsBases) (defBody sIsBases) (defScope sIsBases) .none kVIsB dcIsB pmIsB anIsB cdIsB ctIsB), slIsB⟩)
    (cIsB : PySem.W.codeIn K cdIsB "is_bases" = true)
    (kIsB : PySem.W.keepIn K (.ref fIsB) = true)
    (aNee : PySem.W.nsIn K mainGlobals "need_bases" = some (some (.ref fNee)))
    (lNee : K.lookup fNee = some ⟨ocNee, odNee, .func (PySem.W.fnOf "need_bases" "need_bases" (defArgs sNeed) (defBody sNeed) (defScope sNeed) .none kVNee dcNee pmNee anNee cdNee ctNee), slNee⟩)
    (cNee : PySem.W.codeIn K cdNee "need_bases" = true)
    (kNee : PySem.W.keepIn K (.ref fNee) = true)
    (aWei : PySem.W.nsIn K mainGlobals "weights" = some (some (.ref fWei)))
    (lWei : K.lookup fWei = some ⟨ocWei, odWei, .func (PySem.W.fnOf "weights" "weights" (defArgs sWeights) (defBody sWeights) (defScope sWeights) .none kVWei dcWei pmWei anWei cdWei ctWei), slWei⟩)
    (cWei : PySem.W.codeIn K cdWei "weights" = true)
    (kWei : PySem.W.keepIn K (.ref fWei) = true)
    (aCnt : PySem.W.nsIn K mainGlobals "count_of" = some (some (.ref fCnt)))
    (lCnt : K.lookup fCnt = some ⟨ocCnt, odCnt, .func (PySem.W.fnOf "count_of" "count_of" (defArgs sCount) (defBody sCount) (defScope sCount) .none kVCnt dcCnt pmCnt anCnt cdCnt ctCnt), slCnt⟩)
    (cCnt : PySem.W.codeIn K cdCnt "count_of" = true)
    (kCnt : PySem.W.keepIn K (.ref fCnt) = true)
    (aSpr : PySem.W.nsIn K mainGlobals "spread" = some (some (.ref fSpr)))
    (lSpr : K.lookup fSpr = some ⟨ocSpr, odSpr, .func (PySem.W.fnOf "spread" "spread" (defArgs sSpread) (defBody sSpread) (defScope sSpread) .none kVSpr dcSpr pmSpr anSpr cdSpr ctSpr), slSpr⟩)
    (cSpr : PySem.W.codeIn K cdSpr "spread" = true)
    (kSpr : PySem.W.keepIn K (.ref fSpr) = true)
    (aGat : PySem.W.nsIn K mainGlobals "gathered" = some (some (.ref fGat)))
    (lGat : K.lookup fGat = some ⟨ocGat, odGat, .func (PySem.W.fnOf "gathered" "gathered" (defArgs sGathered) (defBody sGathered) (defScope sGathered) .none kVGat dcGat pmGat anGat cdGat ctGat), slGat⟩)
    (cGat : PySem.W.codeIn K cdGat "gathered" = true)
    (kGat : PySem.W.keepIn K (.ref fGat) = true)
    (aFir : PySem.W.nsIn K mainGlobals "first_wrong" = some (some (.ref fFir)))
    (lFir : K.lookup fFir = some ⟨ocFir, odFir, .func (PySem.W.fnOf "first_wrong" "first_wrong" (defArgs sFirstWrong) (defBody sFirstWrong) (defScope sFirstWrong) .none kVFir dcFir pmFir anFir cdFir ctFir), slFir⟩)
    (cFir : PySem.W.codeIn K cdFir "first_wrong" = true)
    (kFir : PySem.W.keepIn K (.ref fFir) = true)
    (aCar : PySem.W.nsIn K mainGlobals "carry" = some (some (.ref fCar)))
    (lCar : K.lookup fCar = some ⟨ocCar, odCar, .func (PySem.W.fnOf "carry" "carry" (defArgs sCarry) (defBody sCarry) (defScope sCarry) .none kVCar dcCar pmCar anCar cdCar ctCar), slCar⟩)
    (cCar : PySem.W.codeIn K cdCar "carry" = true)
    (kCar : PySem.W.keepIn K (.ref fCar) = true)
    (aFro : PySem.W.nsIn K mainGlobals "numerals_from" = some (some (.ref fFro)))
    (lFro : K.lookup fFro = some ⟨ocFro, odFro, .func (PySem.W.fnOf "numerals_from" "numerals_from" (defArgs sFrom) (defBody sFrom) (defScope sFrom) .none kVFro dcFro pmFro anFro cdFro ctFro), slFro⟩)
    (cFro : PySem.W.codeIn K cdFro "numerals_from" = true)
    (kFro : PySem.W.keepIn K (.ref fFro) = true)
    (aPen : PySem.W.nsIn K mainGlobals "_law_pen" = some (some (.ref fPen)))
    (lPen : K.lookup fPen = some ⟨ocPen, odPen, .func (PySem.W.fnOf "_law_pen" "_law_pen" (defArgs sPen) (defBody sPen) (defScope sPen) .none kVPen dcPen pmPen anPen cdPen ctPen), slPen⟩)
    (cPen : PySem.W.codeIn K cdPen "_law_pen" = true)
    (kPen : PySem.W.keepIn K (.ref fPen) = true)
    (aTak : PySem.W.nsIn K mainGlobals "_law_take" = some (some (.ref fTak)))
    (lTak : K.lookup fTak = some ⟨ocTak, odTak, .func (PySem.W.fnOf "_law_take" "_law_take" (defArgs sTake) (defBody sTake) (defScope sTake) .none kVTak dcTak pmTak anTak cdTak ctTak), slTak⟩)
    (cTak : PySem.W.codeIn K cdTak "_law_take" = true)
    (kTak : PySem.W.keepIn K (.ref fTak) = true)
    (aPic : PySem.W.nsIn K mainGlobals "_law_pick" = some (some (.ref fPic)))
    (lPic : K.lookup fPic = some ⟨ocPic, odPic, .func (PySem.W.fnOf "_law_pick" "_law_pick" (defArgs sPick) (defBody sPick) (defScope sPick) .none kVPic dcPic pmPic anPic cdPic ctPic), slPic⟩)
    (cPic : PySem.W.codeIn K cdPic "_law_pick" = true)
    (kPic : PySem.W.keepIn K (.ref fPic) = true)
    (aBas : PySem.W.nsIn K mainGlobals "_law_bases" = some (some (.ref fBas)))
    (lBas : K.lookup fBas = some ⟨ocBas, odBas, .func (PySem.W.fnOf "_law_bases" "_law_bases" (defArgs sBases) (defBody sBases) (defScope sBases) .none kVBas dcBas pmBas anBas cdBas ctBas), slBas⟩)
    (cBas : PySem.W.codeIn K cdBas "_law_bases" = true)
    (kBas : PySem.W.keepIn K (.ref fBas) = true)
    (aLow : PySem.W.nsIn K mainGlobals "_law_low" = some (some (.ref fLow)))
    (lLow : K.lookup fLow = some ⟨ocLow, odLow, .func (PySem.W.fnOf "_law_low" "_law_low" (defArgs sLow) (defBody sLow) (defScope sLow) .none kVLow dcLow pmLow anLow cdLow ctLow), slLow⟩)
    (cLow : PySem.W.codeIn K cdLow "_law_low" = true)
    (kLow : PySem.W.keepIn K (.ref fLow) = true)
    (aOnc : PySem.W.nsIn K mainGlobals "_law_at_once" = some (some (.ref fOnc)))
    (lOnc : K.lookup fOnc = some ⟨ocOnc, odOnc, .func (PySem.W.fnOf "_law_at_once" "_law_at_once" (defArgs sAtOnce) (defBody sAtOnce) (defScope sAtOnce) .none kVOnc dcOnc pmOnc anOnc cdOnc ctOnc), slOnc⟩)
    (cOnc : PySem.W.codeIn K cdOnc "_law_at_once" = true)
    (kOnc : PySem.W.keepIn K (.ref fOnc) = true)
    (aUnl : PySem.W.nsIn K mainGlobals "_law_unlike" = some (some (.ref fUnl)))
    (lUnl : K.lookup fUnl = some ⟨ocUnl, odUnl, .func (PySem.W.fnOf "_law_unlike" "_law_unlike" (defArgs sUnlike) (defBody sUnlike) (defScope sUnlike) .none kVUnl dcUnl pmUnl anUnl cdUnl ctUnl), slUnl⟩)
    (cUnl : PySem.W.codeIn K cdUnl "_law_unlike" = true)
    (kUnl : PySem.W.keepIn K (.ref fUnl) = true)
    (aBey : PySem.W.nsIn K mainGlobals "_law_beyond" = some (some (.ref fBey)))
    (lBey : K.lookup fBey = some ⟨ocBey, odBey, .func (PySem.W.fnOf "_law_beyond" "_law_beyond" (defArgs sBeyond) (defBody sBeyond) (defScope sBeyond) .none kVBey dcBey pmBey anBey cdBey ctBey), slBey⟩)
    (cBey : PySem.W.codeIn K cdBey "_law_beyond" = true)
    (kBey : PySem.W.keepIn K (.ref fBey) = true)
    (aSte : PySem.W.nsIn K mainGlobals "_law_step_right" = some (some (.ref fSte)))
    (lSte : K.lookup fSte = some ⟨ocSte, odSte, .func (PySem.W.fnOf "_law_step_right" "_law_step_right" (defArgs sStep) (defBody sStep) (defScope sStep) .none kVSte dcSte pmSte anSte cdSte ctSte), slSte⟩)
    (cSte : PySem.W.codeIn K cdSte "_law_step_right" = true)
    (kSte : PySem.W.keepIn K (.ref fSte) = true)
    (aRow : PySem.W.nsIn K mainGlobals "_law_row_right" = some (some (.ref fRow)))
    (lRow : K.lookup fRow = some ⟨ocRow, odRow, .func (PySem.W.fnOf "_law_row_right" "_law_row_right" (defArgs sRow) (defBody sRow) (defScope sRow) .none kVRow dcRow pmRow anRow cdRow ctRow), slRow⟩)
    (cRow : PySem.W.codeIn K cdRow "_law_row_right" = true)
    (kRow : PySem.W.keepIn K (.ref fRow) = true)
    (aLaw : PySem.W.nsIn K mainGlobals "law" = some (some (.ref fLaw)))
    (lLaw : K.lookup fLaw = some ⟨ocLaw, odLaw, .func (PySem.W.fnOf "law" "law" (defArgs sLaw) (defBody sLaw) (defScope sLaw) .none kVLaw dcLaw pmLaw anLaw cdLaw ctLaw), slLaw⟩)
    (cLaw : PySem.W.codeIn K cdLaw "law" = true)
    (kLaw : PySem.W.keepIn K (.ref fLaw) = true)
    (aIni : PySem.W.findIn K (.ref C) "__init__" = some (some (.ref fIni)))
    (iIni : PySem.W.isFn K (.ref fIni) = true)
    (lIni : K.lookup fIni = some ⟨ocIni, odIni, .func (PySem.W.fnOf "__init__" "Numeral.__init__" (defArgs sInit) (defBody sInit) (defScope sInit) .none kVIni dcIni pmIni anIni cdIni ctIni), slIni⟩)
    (cIni : PySem.W.codeIn K cdIni "Numeral.__init__" = true)
    (kIni : PySem.W.keepIn K (.ref fIni) = true)
    (aMad : PySem.W.findIn K (.ref C) "made" = some (some (.ref fMad)))
    (iMad : PySem.W.isFn K (.ref fMad) = true)
    (lMad : K.lookup fMad = some ⟨ocMad, odMad, .func (PySem.W.fnOf "made" "Numeral.made" (defArgs sMade) (defBody sMade) (defScope sMade) .none kVMad dcMad pmMad anMad cdMad ctMad), slMad⟩)
    (cMad : PySem.W.codeIn K cdMad "Numeral.made" = true)
    (kMad : PySem.W.keepIn K (.ref fMad) = true)
    (aLik : PySem.W.findIn K (.ref C) "need_like" = some (some (.ref fLik)))
    (iLik : PySem.W.isFn K (.ref fLik) = true)
    (lLik : K.lookup fLik = some ⟨ocLik, odLik, .func (PySem.W.fnOf "need_like" "Numeral.need_like" (defArgs sLike) (defBody sLike) (defScope sLike) .none kVLik dcLik pmLik anLik cdLik ctLik), slLik⟩)
    (cLik : PySem.W.codeIn K cdLik "Numeral.need_like" = true)
    (kLik : PySem.W.keepIn K (.ref fLik) = true)
    (aAmo : PySem.W.findIn K (.ref C) "amount" = some (some (.ref fAmo)))
    (iAmo : PySem.W.isFn K (.ref fAmo) = true)
    (lAmo : K.lookup fAmo = some ⟨ocAmo, odAmo, .func (PySem.W.fnOf "amount" "Numeral.amount" (defArgs sAmount) (defBody sAmount) (defScope sAmount) .none kVAmo dcAmo pmAmo anAmo cdAmo ctAmo), slAmo⟩)
    (cAmo : PySem.W.codeIn K cdAmo "Numeral.amount" = true)
    (kAmo : PySem.W.keepIn K (.ref fAmo) = true)
    (aCha : PySem.W.findIn K (.ref C) "changed" = some (some (.ref fCha)))
    (iCha : PySem.W.isFn K (.ref fCha) = true)
    (lCha : K.lookup fCha = some ⟨ocCha, odCha, .func (PySem.W.fnOf "changed" "Numeral.changed" (defArgs sChanged) (defBody sChanged) (defScope sChanged) .none kVCha dcCha pmCha anCha cdCha ctCha), slCha⟩)
    (cCha : PySem.W.codeIn K cdCha "Numeral.changed" = true)
    (kCha : PySem.W.keepIn K (.ref fCha) = true)
    (aEqq : PySem.W.findIn K (.ref C) "__eq__" = some (some (.ref fEqq)))
    (iEqq : PySem.W.isFn K (.ref fEqq) = true)
    (lEqq : K.lookup fEqq = some ⟨ocEqq, odEqq, .func (PySem.W.fnOf "__eq__" "Numeral.__eq__" (defArgs sEq) (defBody sEq) (defScope sEq) .none kVEqq dcEqq pmEqq anEqq cdEqq ctEqq), slEqq⟩)
    (cEqq : PySem.W.codeIn K cdEqq "Numeral.__eq__" = true)
    (kEqq : PySem.W.keepIn K (.ref fEqq) = true)
    (aAdd : PySem.W.findIn K (.ref C) "__add__" = some (some (.ref fAdd)))
    (iAdd : PySem.W.isFn K (.ref fAdd) = true)
    (lAdd : K.lookup fAdd = some ⟨ocAdd, odAdd, .func (PySem.W.fnOf "__add__" "Numeral.__add__" (defArgs sAdd) (defBody sAdd) (defScope sAdd) .none kVAdd dcAdd pmAdd anAdd cdAdd ctAdd), slAdd⟩)
    (cAdd : PySem.W.codeIn K cdAdd "Numeral.__add__" = true)
    (kAdd : PySem.W.keepIn K (.ref fAdd) = true)
    (aLen : PySem.W.findIn K (.ref C) "__len__" = some (some (.ref fLen)))
    (iLen : PySem.W.isFn K (.ref fLen) = true)
    (lLen : K.lookup fLen = some ⟨ocLen, odLen, .func (PySem.W.fnOf "__len__" "Numeral.__len__" (defArgs sLen) (defBody sLen) (defScope sLen) .none kVLen dcLen pmLen anLen cdLen ctLen), slLen⟩)
    (cLen : PySem.W.codeIn K cdLen "Numeral.__len__" = true)
    (kLen : PySem.W.keepIn K (.ref fLen) = true)
    (aIte : PySem.W.findIn K (.ref C) "__getitem__" = some (some (.ref fIte)))
    (iIte : PySem.W.isFn K (.ref fIte) = true)
    (lIte : K.lookup fIte = some ⟨ocIte, odIte, .func (PySem.W.fnOf "__getitem__" "Numeral.__getitem__" (defArgs sItem) (defBody sItem) (defScope sItem) .none kVIte dcIte pmIte anIte cdIte ctIte), slIte⟩)
    (cIte : PySem.W.codeIn K cdIte "Numeral.__getitem__" = true)
    (kIte : PySem.W.keepIn K (.ref fIte) = true)
    (oRd : PySem.W.readsIn K C (.type "type") = true)
    (oGa : PySem.W.specialIn K (.ref C) "__getattribute__" = some (some (.builtin "type.__getattribute__")))
    (oAt : PySem.W.findCls K (.ref C) (.type "type") "of" = some (.get (.builtin "classmethod.__get__") (.ref pOf) .none (.ref C)))
    (oRc : PySem.W.recIn K pOf "classmethod" = some (.ref fOff :: restOf))
    (oFi : PySem.W.fnIn K fOff = true)
    (lOff : K.lookup fOff = some ⟨ocOff, odOff, .func (PySem.W.fnOf "of" "Numeral.of" (defArgs sOf) (defBody sOf) (defScope sOf) .none kVOff dcOff pmOff anOff cdOff ctOff), slOff⟩)
    (cOff : PySem.W.codeIn K cdOff "Numeral.of" = true)
    (kOff : PySem.W.keepIn K (.ref fOff) = true)
    (iIteF : PySem.W.fnIn K fIte = true)
    (pg : PySem.W.plainGet K C Str.empty = true)
    (hd : PySem.W.hasDictIn K C = true)
    (po : PySem.W.plainOver K C = true)
    (sa : PySem.W.findIn K (.ref C) "__setattr__" = some (some (.builtin "object.__setattr__")))
    (mk : PySem.W.makesIn K C = true)
    (kc : PySem.W.keepIn K (.ref C) = true)
    (nD : PySem.W.findIn K (.ref C) "digits" = some none)
    (nB : PySem.W.findIn K (.ref C) "bases" = some none)
    (nV : PySem.W.findIn K (.ref C) "value" = some none)
    (ca : PySem.W.findIn K (.ref C) "__class__" = some (some (.builtin "object.__class__")))
    (cn : PySem.W.specialIn K (.builtin "object.__class__") "__get__" = some (some (.builtin "getset_descriptor.__get__")))
    (ct : PySem.W.takesIn K (.builtin "object.__class__") = some true)
    (cm : PySem.W.mroIn K C (.type "object") = some true)
    (kin : PySem.W.kitOne K (.type "int") (.ref C) = some false)
    (ne : PySem.W.findIn K (.ref C) "__ne__" = some (some (.builtin "object.__ne__")))
    (so : PySem.W.subIn K (.ref C) (.type "object") = some true)
    (sf : PySem.W.selfFirst K C = true)
    (ra : PySem.W.findIn K (.ref C) "__radd__" = some (some (.ref gR)))
    (ia : PySem.W.findIn K (.type "int") "__add__" = some fo)
    (ir : PySem.W.findIn K (.type "int") "__radd__" = some ro)
    (si : PySem.W.subIn K (.type "int") (.ref C) = some false)
    (xO : K.lookup CO = some (excClassObj nmO qO CO NO bsO [.ref CR, .type "ValueError", .type "Exception", .type "BaseException", .type "object"] true snO subO abO colO ddO m0 m1 m2 m3 m5 "ValueError.__new__"))
    (saO : PySem.W.findIn K (.ref CO) "__setattr__" = some (some (.builtin "object.__setattr__")))
    (beO : PySem.W.subIn K (.ref CO) (.type "BaseException") = some true)
    (tyO : PySem.W.typeIn K (.ref CO) = some (.type "type"))
    (kO : PySem.W.keepIn K (.ref CO) = true)
    (aOvi : PySem.W.findIn K (.ref CO) "__init__" = some (some (.ref fOvi)))
    (tOvi : PySem.W.typeIn K (.ref fOvi) = some (.type "function"))
    (lOvi : K.lookup fOvi = some ⟨ocOvi, odOvi, .func (PySem.W.fnOf "__init__" "Overflow.__init__" (defArgs sOvI) (defBody sOvI) (defScope sOvI) .none kVOvi dcOvi pmOvi anOvi cdOvi ctOvi), slOvi⟩)
    (cOvi : PySem.W.codeIn K cdOvi "Overflow.__init__" = true)
    (kOvi : PySem.W.keepIn K (.ref fOvi) = true)
    (vO : PySem.W.findIn K (.ref CO) "value" = some none)
    (icO : PySem.W.isClsIn K CO = true)
    (ssO : PySem.W.subIn K (.ref CO) (.ref CO) = some true)
    (gaO : PySem.W.findIn K (.ref CO) "__getattribute__" = some (some (.builtin "BaseException.__getattribute__")))
    (ggO : PySem.W.findIn K (.ref CO) "__getattr__" = some none)
    (hdO : PySem.W.hasDictIn K CO = true)
    (xU : PySem.W.excIn K CU [.type "ValueError", .type "Exception", .type "BaseException", .type "object"] "ValueError.__new__" = true)
    (kU : PySem.W.keepIn K (.ref CU) = true)
    (beU : PySem.W.subIn K (.ref CU) (.type "BaseException") = some true)
    (tyU : PySem.W.typeIn K (.ref CU) = some (.type "type"))
    (icU : PySem.W.isClsIn K CU = true)
    (ssU : PySem.W.subIn K (.ref CU) (.ref CU) = some true)
    (stU : PySem.W.subIn K (.ref CU) (.type "StopIteration") = some false)
    (z_isinstance : PySem.W.nsIn K mainGlobals "isinstance" = some none)
    (z_len : PySem.W.nsIn K mainGlobals "len" = some none)
    (z_all : PySem.W.nsIn K mainGlobals "all" = some none)
    (z_int : PySem.W.nsIn K mainGlobals "int" = some none)
    (z_bool : PySem.W.nsIn K mainGlobals "bool" = some none)
    (z_tuple : PySem.W.nsIn K mainGlobals "tuple" = some none)
    (z_list : PySem.W.nsIn K mainGlobals "list" = some none)
    (z_zip : PySem.W.nsIn K mainGlobals "zip" = some none)
    (z_enumerate : PySem.W.nsIn K mainGlobals "enumerate" = some none)
    (z_range : PySem.W.nsIn K mainGlobals "range" = some none)
    (z_min : PySem.W.nsIn K mainGlobals "min" = some none)
    (z_max : PySem.W.nsIn K mainGlobals "max" = some none)
    (z_abs : PySem.W.nsIn K mainGlobals "abs" = some none)
    (z_repr : PySem.W.nsIn K mainGlobals "repr" = some none)
    (z_lo : PySem.W.nsIn K mainGlobals "LEAST_BASE" = some (some (.int 2 tlo)))
    (z_hi : PySem.W.nsIn K mainGlobals "GREATEST_BASE" = some (some (.int 100 thi)))
    (z_mo : PySem.W.nsIn K mainGlobals "MOST_BASES" = some (some (.int 4 tmo)))
    : ∃ fd : FuncData, ∀ base : Heap, K.In base → base.Ns mainGlobals mg → FnG P w K mg base 12 fa (spLaw K) := by
  have e := hfa.symm.trans (PySem.W.mg_of X G aLaw)
  cases e
  have FIsW := fun_mk (st := sIsWhole) lIsW cIsW kIsW
  have bIsW := FIsW.binds (ps := ["thing"]) fun _ _ _ _ _ _ us hl => match us, hl with | [_], _ => rfl
  have FIsB := fun_mk (st := sIsBases) lIsB cIsB kIsB
  have bIsB := FIsB.binds (ps := ["thing"]) fun _ _ _ _ _ _ us hl => match us, hl with | [_], _ => rfl
  have FNee := fun_mk (st := sNeed) lNee cNee kNee
  have bNee := FNee.binds (ps := ["thing"]) fun _ _ _ _ _ _ us hl => match us, hl with | [_], _ => rfl
  have FWei := fun_mk (st := sWeights) lWei cWei kWei
  have bWei := FWei.binds (ps := ["bases"]) fun _ _ _ _ _ _ us hl => match us, hl with | [_], _ => rfl
  have FCnt := fun_mk (st := sCount) lCnt cCnt kCnt
  have bCnt := FCnt.binds (ps := ["bases"]) fun _ _ _ _ _ _ us hl => match us, hl with | [_], _ => rfl
  have FSpr := fun_mk (st := sSpread) lSpr cSpr kSpr
  have bSpr := FSpr.binds (ps := ["value", "bases"]) fun _ _ _ _ _ _ us hl => match us, hl with | [_, _], _ => rfl
  have FGat := fun_mk (st := sGathered) lGat cGat kGat
  have bGat := FGat.binds (ps := ["digits", "bases"]) fun _ _ _ _ _ _ us hl => match us, hl with | [_, _], _ => rfl
  have FFir := fun_mk (st := sFirstWrong) lFir cFir kFir
  have bFir := FFir.binds (ps := ["digits", "bases"]) fun _ _ _ _ _ _ us hl => match us, hl with | [_, _], _ => rfl
  have FCar := fun_mk (st := sCarry) lCar cCar kCar
  have bCar := FCar.binds (ps := ["numeral"]) fun _ _ _ _ _ _ us hl => match us, hl with | [_], _ => rfl
  have FFro := fun_mk (st := sFrom) lFro cFro kFro
  have bFro := FFro.binds (ps := ["low", "high"]) fun _ _ _ _ _ _ us hl => match us, hl with | [_, _], _ => rfl
  have FPen := fun_mk (st := sPen) lPen cPen kPen
  have bPen := FPen.binds (ps := ["_law_script"]) fun _ _ _ _ _ _ us hl => match us, hl with | [_], _ => rfl
  have FTak := fun_mk (st := sTake) lTak cTak kTak
  have bTak := FTak.binds (ps := ["_law_pen_here", "_law_limit"]) fun _ _ _ _ _ _ us hl => match us, hl with | [_, _], _ => rfl
  have FPic := fun_mk (st := sPick) lPic cPic kPic
  have bPic := FPic.binds (ps := ["_law_pen_here", "_law_some"]) fun _ _ _ _ _ _ us hl => match us, hl with | [_, _], _ => rfl
  have FBas := fun_mk (st := sBases) lBas cBas kBas
  have bBas := FBas.binds (ps := ["_law_pen_here"]) fun _ _ _ _ _ _ us hl => match us, hl with | [_], _ => rfl
  have FLow := fun_mk (st := sLow) lLow cLow kLow
  have bLow := FLow.binds (ps := ["_law_pen_here", "_law_bases_here"]) fun _ _ _ _ _ _ us hl => match us, hl with | [_, _], _ => rfl
  have FOnc := fun_mk (st := sAtOnce) lOnc cOnc kOnc
  have bOnc := FOnc.binds (ps := ["_law_pen_here"]) fun _ _ _ _ _ _ us hl => match us, hl with | [_], _ => rfl
  have FUnl := fun_mk (st := sUnlike) lUnl cUnl kUnl
  have bUnl := FUnl.binds (ps := ["_law_low_here", "_law_high"]) fun _ _ _ _ _ _ us hl => match us, hl with | [_, _], _ => rfl
  have FBey := fun_mk (st := sBeyond) lBey cBey kBey
  have bBey := FBey.binds (ps := ["_law_numeral"]) fun _ _ _ _ _ _ us hl => match us, hl with | [_], _ => rfl
  have FSte := fun_mk (st := sStep) lSte cSte kSte
  have bSte := FSte.binds (ps := ["_law_one", "_law_behind"]) fun _ _ _ _ _ _ us hl => match us, hl with | [_, _], _ => rfl
  have FRow := fun_mk (st := sRow) lRow cRow kRow
  have bRow := FRow.binds (ps := ["_law_rows", "_law_bases_here", "_law_low_here"]) fun _ _ _ _ _ _ us hl => match us, hl with | [_, _, _], _ => rfl
  have FLaw := fun_mk (st := sLaw) lLaw cLaw kLaw
  have bLaw := FLaw.binds (ps := ["_law_script"]) fun _ _ _ _ _ _ us hl => match us, hl with | [_], _ => rfl
  have FIni := fun_mk (st := sInit) lIni cIni kIni
  have bIni := FIni.binds (ps := ["self", "digits", "bases"]) fun _ _ _ _ _ _ us hl => match us, hl with | [_, _, _], _ => rfl
  have FMad := fun_mk (st := sMade) lMad cMad kMad
  have bMad := FMad.binds (ps := ["self", "value"]) fun _ _ _ _ _ _ us hl => match us, hl with | [_, _], _ => rfl
  have FLik := fun_mk (st := sLike) lLik cLik kLik
  have bLik := FLik.binds (ps := ["self", "other"]) fun _ _ _ _ _ _ us hl => match us, hl with | [_, _], _ => rfl
  have FAmo := fun_mk (st := sAmount) lAmo cAmo kAmo
  have bAmo := FAmo.binds (ps := ["self", "other"]) fun _ _ _ _ _ _ us hl => match us, hl with | [_, _], _ => rfl
  have FCha := fun_mk (st := sChanged) lCha cCha kCha
  have bCha := FCha.binds (ps := ["self", "other"]) fun _ _ _ _ _ _ us hl => match us, hl with | [_, _], _ => rfl
  have FEqq := fun_mk (st := sEq) lEqq cEqq kEqq
  have bEqq := FEqq.binds (ps := ["self", "other"]) fun _ _ _ _ _ _ us hl => match us, hl with | [_, _], _ => rfl
  have FAdd := fun_mk (st := sAdd) lAdd cAdd kAdd
  have bAdd := FAdd.binds (ps := ["self", "other"]) fun _ _ _ _ _ _ us hl => match us, hl with | [_, _], _ => rfl
  have FLen := fun_mk (st := sLen) lLen cLen kLen
  have bLen := FLen.binds (ps := ["self"]) fun _ _ _ _ _ _ us hl => match us, hl with | [_], _ => rfl
  have FIte := fun_mk (st := sItem) lIte cIte kIte
  have bIte := FIte.binds (ps := ["self", "place"]) fun _ _ _ _ _ _ us hl => match us, hl with | [_, _], _ => rfl
  have FOff := fun_mk (st := sOf) lOff cOff kOff
  have bOff := FOff.binds (ps := ["cls", "value", "bases"]) fun _ _ _ _ _ _ us hl => match us, hl with | [_, _, _], _ => rfl
  have FOvi := fun_mk (st := sOvI) lOvi cOvi kOvi
  have bOvi := FOvi.binds (ps := ["self", "value"]) fun _ _ _ _ _ _ us hl => match us, hl with | [_, _], _ => rfl
  have B : Bi mg := { isinstance := PySem.W.mg_none_of X G z_isinstance, len := PySem.W.mg_none_of X G z_len, all := PySem.W.mg_none_of X G z_all, int := PySem.W.mg_none_of X G z_int, bool := PySem.W.mg_none_of X G z_bool, tuple := PySem.W.mg_none_of X G z_tuple, list := PySem.W.mg_none_of X G z_list, zip := PySem.W.mg_none_of X G z_zip, enumerate := PySem.W.mg_none_of X G z_enumerate, range := PySem.W.mg_none_of X G z_range, min := PySem.W.mg_none_of X G z_min, max := PySem.W.mg_none_of X G z_max, abs := PySem.W.mg_none_of X G z_abs, repr := PySem.W.mg_none_of X G z_repr, low := ⟨_, PySem.W.mg_of X G z_lo⟩, high := ⟨_, PySem.W.mg_of X G z_hi⟩, most := ⟨_, PySem.W.mg_of X G z_mo⟩ }
  have T : NTy K mg C := { cl := ⟨pg, hd, po, sa⟩, nD := nD, nB := nB, nV := nV, ca := ca, cn := cn, ct := ct, cm := cm, kin := kin, mgC := PySem.W.mg_of X G nC }
  have xOk : OexC K CO := { cls := ⟨nmO, qO, NO, bsO, _, snO, subO, abO, colO, ddO, m0, m1, m2, m3, m5, xO, by first | rfl | decide +kernel⟩, sa := saO, exC := beO, tyC := tyO, kC := kO }
  have exmO := exm_own beO icO tyO ssO
  have exmU := exm_own beU icU tyU ssU
  have U : UnT K mg CU [.type "ValueError", .type "Exception", .type "BaseException", .type "object"] := ⟨xU, PySem.W.mg_of X G nU, kU, beU, tyU⟩
  have kf : KfT K CO "value" := ⟨gaO, ggO, beO, hdO, vO⟩
  refine ⟨PySem.W.fnOf "law" "law" (defArgs sLaw) (defBody sLaw) (defScope sLaw) .none kVLaw dcLaw pmLaw anLaw cdLaw ctLaw, fun base _ _ => ?_⟩
  have cIsW : CallF P w K mg base CX0 1 "is_whole" spIsWhole := ⟨fIsW, fnR_of (ok_isWhole FIsW B) bIsW, kIsW, PySem.W.mg_of X G aIsW⟩
  have cIsB : CallF P w K mg base CX0 2 "is_bases" spIsBases := ⟨fIsB, fnR_of (ok_isBases FIsB B cIsW) bIsB, kIsB, PySem.W.mg_of X G aIsB⟩
  have cNee : CallF P w K mg base CX0 3 "need_bases" spNeed := ⟨fNee, fnR_of (ok_need FNee cIsB) bNee, kNee, PySem.W.mg_of X G aNee⟩
  have cWei : CallF P w K mg base CX0 4 "weights" spWeights := ⟨fWei, fnR_of (ok_weights FWei B cNee) bWei, kWei, PySem.W.mg_of X G aWei⟩
  have cCnt : CallF P w K mg base CX0 5 "count_of" spCount := ⟨fCnt, fnR_of (ok_count FCnt cWei) bCnt, kCnt, PySem.W.mg_of X G aCnt⟩
  have cSpr : CallF P w K mg base CX0 1 "spread" spSpread := ⟨fSpr, fnR_of (ok_spread FSpr B) bSpr, kSpr, PySem.W.mg_of X G aSpr⟩
  have cGat : CallF P w K mg base CX0 1 "gathered" spGathered := ⟨fGat, fnR_of (ok_gathered FGat B) bGat, kGat, PySem.W.mg_of X G aGat⟩
  have cFir : CallF P w K mg base CX0 2 "first_wrong" spFirstWrong := ⟨fFir, fnR_of (ok_firstWrong FFir B cIsW) bFir, kFir, PySem.W.mg_of X G aFir⟩
  have gIni : FnR P w K mg base CX0 4 fIni (spInit C) := fnR_of (ok_init FIni B T.toNTx cNee cFir cGat) bIni
  have M : Mk K C fIni := ⟨mk, aIni, iIni, kc⟩
  have O : OvT P w K mg base CO := ⟨xOk, PySem.W.mg_of X G nO, fOvi, _, ok_ovI FOvi xOk vO, bOvi, aOvi, tOvi⟩
  have OF : OfT P w K mg base C := ⟨_, pOf, fOff, ⟨oRd, oGa⟩, ⟨oAt, ⟨restOf, oRc⟩, oFi⟩, fnR_of (ok_of FOff M gIni cNee cCnt cSpr) bOff⟩
  have mMad : MethF P w K mg base C (L2.CX P w) 6 "made" (spMade C CO) := ⟨fMad, fnR_of (ok_made FMad T M gIni cCnt cSpr O) bMad, aMad, iMad, kMad⟩
  have mLik : MethF P w K mg base C (L2.CX P w) 2 "need_like" (spLike C CU) := ⟨fLik, fnR_of (ok_like FLik T PySem.F.excBase_ValueError U) bLik, aLik, iLik, kLik⟩
  have mAmo : MethF P w K mg base C CX0 1 "amount" spAmount := ⟨fAmo, fnR_of (ok_amount FAmo B T) bAmo, aAmo, iAmo, kAmo⟩
  have mCha : MethF P w K mg base C CX0 3 "changed" (spChanged C) := ⟨fCha, fnR_of (ok_changed FCha B T mLik) bCha, aCha, iCha, kCha⟩
  have AT : AddT P w K mg base C CO := ⟨⟨fAdd, aAdd, iAdd, fnR_of (ok_add FAdd B T cIsW mAmo mMad) bAdd⟩, sf, ⟨_, ra, .inr ⟨gR, rfl⟩⟩, ⟨fo, ia⟩, ⟨ro, ir⟩, si⟩
  have OT : OpsT P w K mg base C CO := ⟨⟨fLen, aLen, iLen, fnR_of (ok_len FLen B T) bLen⟩, ⟨fIte, aIte, iIte, iIteF, fnR_of (ok_item FIte B T cIsW) bIte⟩, ⟨fEqq, aEqq, iEqq, fnR_of (ok_eq FEqq B T) bEqq⟩, ne, so, AT⟩
  have cCar : CallF P w K mg base (L2.CX P w) 8 "carry" (spCarry C CO) := ⟨fCar, fnR_of (ok_carry FCar T mCha AT) bCar, kCar, PySem.W.mg_of X G aCar⟩
  have FG : FromT P w K mg base C CU := ⟨fFro, _, ok_from FFro T mLik mMad, bFro, kFro, PySem.W.mg_of X G aFro⟩
  have cPen : CallF P w K mg base CX0 1 "_law_pen" (spPen K) := ⟨fPen, fnR_of (ok_pen FPen B) bPen, kPen, PySem.W.mg_of X G aPen⟩
  have cTak : CallF P w K mg base CX0 1 "_law_take" spTake := ⟨fTak, fnR_of (ok_take FTak B) bTak, kTak, PySem.W.mg_of X G aTak⟩
  have cPic : CallF P w K mg base CX0 2 "_law_pick" spPick := ⟨fPic, fnR_of (ok_pick FPic B cTak) bPic, kPic, PySem.W.mg_of X G aPic⟩
  have cBas : CallF P w K mg base CX0 3 "_law_bases" spBases := ⟨fBas, fnR_of (ok_bases FBas B cTak cPic) bBas, kBas, PySem.W.mg_of X G aBas⟩
  have cLow : CallF P w K mg base CX0 6 "_law_low" spLow := ⟨fLow, fnR_of (ok_low FLow B cTak cPic cCnt cWei) bLow, kLow, PySem.W.mg_of X G aLow⟩
  have cUnl : CallF P w K mg base CX0 11 "_law_unlike" (spUnlike C) := ⟨fUnl, fnR_of (ok_unlike FUnl B FG (PySem.W.mg_of X G nU) exmU stU) bUnl, kUnl, PySem.W.mg_of X G aUnl⟩
  have cBey : CallF P w K mg base CX0 9 "_law_beyond" (spBeyond C) := ⟨fBey, fnR_of (ok_beyond FBey cCar (PySem.W.mg_of X G nO) exmO kf) bBey, kBey, PySem.W.mg_of X G aBey⟩
  have cOnc : CallF P w K mg base CX0 11 "_law_at_once" spOnce := ⟨fOnc, fnR_of (ok_once FOnc B T OF cTak FFro bFro kFro (PySem.W.mg_of X G aFro) mLik mMad) bOnc, kOnc, PySem.W.mg_of X G aOnc⟩
  have gSte : CallG P w K mg base 9 "_law_step_right" (spStep C) := ⟨fSte, ok_step FSte bSte B T OT cCar mCha, kSte, PySem.W.mg_of X G aSte⟩
  have gRow : CallG P w K mg base 10 "_law_row_right" (spRow C) := ⟨fRow, ok_row FRow bRow B T cCar gSte cWei, kRow, PySem.W.mg_of X G aRow⟩
  exact ok_law FLaw bLaw B T OT OF FG cPen cTak cPic cBas cCnt cLow gRow cBey cUnl cOnc
end K7
open PySem PySem.W PyProof.Rows in
set_option maxRecDepth 100000 in
set_option maxHeartbeats 0 in
theorem PySem.Challenge.cw_risingread_k07_whole_carries_holds : PySem.Challenge.rw_risingread_k07_whole_carries.Holds := by
  w_on; o_law; k_head; (case hw => w_witness2)
  k_fill
  refine K7.walkG (l := PySem.Challenge.rw_risingread_k07_whole_carries) rfl rfl (fun w h Y => PySem.W.kIn_of Y) ?F
  case F =>
    intro w mg fa h KX G hmg
    refine' K7.all_mk KX G hmg ?nC ?nO ?nU ?aIsW ?lIsW ?cIsW ?kIsW ?aIsB ?lIsB ?cIsB ?kIsB ?aNee ?lNee ?cNee ?kNee ?aWei ?lWei ?cWei ?kWei ?aCnt ?lCnt ?cCnt ?kCnt ?aSpr ?lSpr ?cSpr ?kSpr ?aGat ?lGat ?cGat ?kGat ?aFir ?lFir ?cFir ?kFir ?aCar ?lCar ?cCar ?kCar ?aFro ?lFro ?cFro ?kFro ?aPen ?lPen ?cPen ?kPen ?aTak ?lTak ?cTak ?kTak ?aPic ?lPic ?cPic ?kPic ?aBas ?lBas ?cBas ?kBas ?aLow ?lLow ?cLow ?kLow ?aOnc ?lOnc ?cOnc ?kOnc ?aUnl ?lUnl ?cUnl ?kUnl ?aBey ?lBey ?cBey ?kBey ?aSte ?lSte ?cSte ?kSte ?aRow ?lRow ?cRow ?kRow ?aLaw ?lLaw ?cLaw ?kLaw ?aIni ?iIni ?lIni ?cIni ?kIni ?aMad ?iMad ?lMad ?cMad ?kMad ?aLik ?iLik ?lLik ?cLik ?kLik ?aAmo ?iAmo ?lAmo ?cAmo ?kAmo ?aCha ?iCha ?lCha ?cCha ?kCha ?aEqq ?iEqq ?lEqq ?cEqq ?kEqq ?aAdd ?iAdd ?lAdd ?cAdd ?kAdd ?aLen ?iLen ?lLen ?cLen ?kLen ?aIte ?iIte ?lIte ?cIte ?kIte ?oRd ?oGa ?oAt ?oRc ?oFi ?lOff ?cOff ?kOff ?iIteF ?pg ?hd ?po ?sa ?mk ?kc ?nD ?nB ?nV ?ca ?cn ?ct ?cm ?kin ?ne ?so ?sf ?ra ?ia ?ir ?si ?xO ?saO ?beO ?tyO ?kO ?aOvi ?tOvi ?lOvi ?cOvi ?kOvi ?vO ?icO ?ssO ?gaO ?ggO ?hdO ?xU ?kU ?beU ?tyU ?icU ?ssU ?stU ?z_isinstance ?z_len ?z_all ?z_int ?z_bool ?z_tuple ?z_list ?z_zip ?z_enumerate ?z_range ?z_min ?z_max ?z_abs ?z_repr ?z_lo ?z_hi ?z_mo
    (case nC => k_is)
    (case nO => k_is)
    (case nU => k_is)
    (case aIsW => k_is)
    (case lIsW => k_is)
    (case cIsW => k_is)
    (case kIsW => k_is)
    (case aIsB => k_is)
    (case lIsB => k_is)
    (case cIsB => k_is)
    (case kIsB => k_is)
    (case aNee => k_is)
    (case lNee => k_is)
    (case cNee => k_is)
    (case kNee => k_is)
    (case aWei => k_is)
    (case lWei => k_is)
    (case cWei => k_is)
    (case kWei => k_is)
    (case aCnt => k_is)
    (case lCnt => k_is)
    (case cCnt => k_is)
    (case kCnt => k_is)
    (case aSpr => k_is)
    (case lSpr => k_is)
    (case cSpr => k_is)
    (case kSpr => k_is)
    (case aGat => k_is)
    (case lGat => k_is)
    (case cGat => k_is)
    (case kGat => k_is)
    (case aFir => k_is)
    (case lFir => k_is)
    (case cFir => k_is)
    (case kFir => k_is)
    (case aCar => k_is)
    (case lCar => k_is)
    (case cCar => k_is)
    (case kCar => k_is)
    (case aFro => k_is)
    (case lFro => k_is)
    (case cFro => k_is)
    (case kFro => k_is)
    (case aPen => k_is)
    (case lPen => k_is)
    (case cPen => k_is)
    (case kPen => k_is)
    (case aTak => k_is)
    (case lTak => k_is)
    (case cTak => k_is)
    (case kTak => k_is)
    (case aPic => k_is)
    (case lPic => k_is)
    (case cPic => k_is)
    (case kPic => k_is)
    (case aBas => k_is)
    (case lBas => k_is)
    (case cBas => k_is)
    (case kBas => k_is)
    (case aLow => k_is)
    (case lLow => k_is)
    (case cLow => k_is)
    (case kLow => k_is)
    (case aOnc => k_is)
    (case lOnc => k_is)
    (case cOnc => k_is)
    (case kOnc => k_is)
    (case aUnl => k_is)
    (case lUnl => k_is)
    (case cUnl => k_is)
    (case kUnl => k_is)
    (case aBey => k_is)
    (case lBey => k_is)
    (case cBey => k_is)
    (case kBey => k_is)
    (case aSte => k_is)
    (case lSte => k_is)
    (case cSte => k_is)
    (case kSte => k_is)
    (case aRow => k_is)
    (case lRow => k_is)
    (case cRow => k_is)
    (case kRow => k_is)
    (case aLaw => k_is)
    (case lLaw => k_is)
    (case cLaw => k_is)
    (case kLaw => k_is)
    (case aIni => k_is)
    (case iIni => k_is)
    (case lIni => k_is)
    (case cIni => k_is)
    (case kIni => k_is)
    (case aMad => k_is)
    (case iMad => k_is)
    (case lMad => k_is)
    (case cMad => k_is)
    (case kMad => k_is)
    (case aLik => k_is)
    (case iLik => k_is)
    (case lLik => k_is)
    (case cLik => k_is)
    (case kLik => k_is)
    (case aAmo => k_is)
    (case iAmo => k_is)
    (case lAmo => k_is)
    (case cAmo => k_is)
    (case kAmo => k_is)
    (case aCha => k_is)
    (case iCha => k_is)
    (case lCha => k_is)
    (case cCha => k_is)
    (case kCha => k_is)
    (case aEqq => k_is)
    (case iEqq => k_is)
    (case lEqq => k_is)
    (case cEqq => k_is)
    (case kEqq => k_is)
    (case aAdd => k_is)
    (case iAdd => k_is)
    (case lAdd => k_is)
    (case cAdd => k_is)
    (case kAdd => k_is)
    (case aLen => k_is)
    (case iLen => k_is)
    (case lLen => k_is)
    (case cLen => k_is)
    (case kLen => k_is)
    (case aIte => k_is)
    (case iIte => k_is)
    (case lIte => k_is)
    (case cIte => k_is)
    (case kIte => k_is)
    (case oRd => k_is)
    (case oGa => k_is)
    (case oAt => k_is)
    (case oRc => k_is)
    (case oFi => k_is)
    (case lOff => k_is)
    (case cOff => k_is)
    (case kOff => k_is)
    (case iIteF => k_is)
    (case pg => k_is)
    (case hd => k_is)
    (case po => k_is)
    (case sa => k_is)
    (case mk => k_is)
    (case kc => k_is)
    (case nD => k_is)
    (case nB => k_is)
    (case nV => k_is)
    (case ca => k_is)
    (case cn => k_is)
    (case ct => k_is)
    (case cm => k_is)
    (case kin => kit_is)
    (case ne => k_is)
    (case so => k_is)
    (case sf => k_is)
    (case ra => k_is)
    (case ia => k_is)
    (case ir => k_is)
    (case si => k_is)
    (case xO => k_is)
    (case saO => k_is)
    (case beO => k_is)
    (case tyO => k_is)
    (case kO => k_is)
    (case aOvi => k_is)
    (case tOvi => k_is)
    (case lOvi => k_is)
    (case cOvi => k_is)
    (case kOvi => k_is)
    (case vO => k_is)
    (case icO => k_is)
    (case ssO => first | rfl | k_is)
    (case gaO => k_is)
    (case ggO => k_is)
    (case hdO => k_is)
    (case xU => k_exc)
    (case kU => k_is)
    (case beU => k_is)
    (case tyU => k_is)
    (case icU => k_is)
    (case ssU => first | rfl | k_is)
    (case stU => k_is)
    (case z_isinstance => k_is)
    (case z_len => k_is)
    (case z_all => k_is)
    (case z_int => k_is)
    (case z_bool => k_is)
    (case z_tuple => k_is)
    (case z_list => k_is)
    (case z_zip => k_is)
    (case z_enumerate => k_is)
    (case z_range => k_is)
    (case z_min => k_is)
    (case z_max => k_is)
    (case z_abs => k_is)
    (case z_repr => k_is)
    (case z_lo => k_is)
    (case z_hi => k_is)
    (case z_mo => k_is)
