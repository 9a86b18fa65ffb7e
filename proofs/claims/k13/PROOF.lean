import PyProof.Rows.All
import Wide.All
import OpenK.AllK
import Wide.FinOn
import HandS.ForMost
import HandS.IsInst
import HandS.Codes
import PySem.Challenge.RW_fairbourse_k13_deal_whole_within_a_cent
set_option Elab.async false
set_option linter.all false
set_option maxRecDepth 100000
set_option maxHeartbeats 4000000
/-! The law k13 over the given program: mathematics (Deal), the walk def by def (K13), the end. -/
namespace Deal
/-! ### sums of the first m values -/
def sumTo (f : Nat → Int) : Nat → Int
  | 0 => 0
  | n + 1 => sumTo f n + f n
theorem sumTo_le {f g : Nat → Int} : ∀ {m : Nat}, (∀ j, j < m → f j ≤ g j) → sumTo f m ≤ sumTo g m
  | 0, _ => Int.le_refl _
  | m + 1, h => by
    have h1 := sumTo_le (f := f) (g := g) (m := m) fun j hj => h j (by omega)
    have h2 := h m (by omega)
    show sumTo f m + f m ≤ sumTo g m + g m
    omega
theorem sumTo_congr {f g : Nat → Int} : ∀ {m : Nat}, (∀ j, j < m → f j = g j) → sumTo f m = sumTo g m
  | 0, _ => rfl
  | m + 1, h => by
    have h1 := sumTo_congr (f := f) (g := g) (m := m) fun j hj => h j (by omega)
    have h2 := h m (by omega)
    show sumTo f m + f m = sumTo g m + g m
    omega
theorem sumTo_mul (c : Int) (f : Nat → Int) : ∀ m : Nat, sumTo (fun j => c * f j) m = c * sumTo f m
  | 0 => by show (0 : Int) = c * 0; rw [Int.mul_zero]
  | m + 1 => by
    show sumTo (fun j => c * f j) m + c * f m = c * (sumTo f m + f m)
    rw [sumTo_mul c f m, Int.mul_add]
theorem sumTo_zero : ∀ m : Nat, sumTo (fun _ => 0) m = 0
  | 0 => rfl
  | m + 1 => by
    show sumTo (fun _ => 0) m + 0 = 0
    rw [sumTo_zero m, Int.add_zero]
/-- one place differs by d -/
theorem sumTo_at {f g : Nat → Int} {i : Nat} {d : Int} : ∀ {m : Nat}, i < m → (∀ j, j < m → j ≠ i → f j = g j) → f i = g i + d → sumTo f m = sumTo g m + d
  | 0, h, _, _ => by omega
  | m + 1, h, hne, he => by
    show sumTo f m + f m = sumTo g m + g m + d
    by_cases e : i = m
    · subst e
      have h1 := sumTo_congr (f := f) (g := g) (m := i) fun j hj => hne j (by omega) (by omega)
      omega
    · have h1 := sumTo_at (f := f) (g := g) (i := i) (d := d) (m := m) (by omega) (fun j hj => hne j (by omega)) he
      have h2 := hne m (by omega) (by omega)
      omega
theorem sumTo_one {f : Nat → Int} : ∀ {m i : Nat}, (∀ j, j < m → 0 ≤ f j) → i < m → f i ≤ sumTo f m
  | 0, i, _, h => by omega
  | m + 1, i, h, hi => by
    show f i ≤ sumTo f m + f m
    have h0 : 0 ≤ sumTo f m := by
      have h1 := sumTo_le (f := fun _ => 0) (g := f) (m := m) fun j hj => h j (by omega)
      rw [sumTo_zero] at h1
      exact h1
    have h2 := h m (by omega)
    by_cases e : i = m
    · subst e
      omega
    · have h3 := sumTo_one (f := f) (m := m) (i := i) (fun j hj => h j (by omega)) (by omega)
      omega

/-! ### the demand -/
/-- the cents of index j that are due by t and not given -/
def dem (T t : Int) (W P : Nat → Int) (j : Nat) : Int := max 0 (t * W j / T - P j)
theorem max0 (x : Int) : max 0 x = if 0 ≤ x then x else 0 := by
  by_cases h : 0 ≤ x
  · rw [if_pos h]; omega
  · rw [if_neg h]; omega
/-- a cent of index j is due by t -/
theorem due_iff {T t w p : Int} (hT : 0 < T) : p + 1 ≤ t * w / T ↔ (p + 1) * T ≤ t * w := Int.le_ediv_iff_mul_le hT
/-- what holds after n cents -/
structure Ok (m : Nat) (W : Nat → Int) (n : Nat) (P : Nat → Int) : Prop where
  lo : ∀ j, j < m → 0 ≤ P j
  hi : ∀ j, j < m → P j ≤ (n : Int)
  sum : sumTo P m = (n : Int)
  up : ∀ j, j < m → P j * sumTo W m < (n : Int) * W j + sumTo W m
  de : ∀ t : Int, (n : Int) ≤ t → sumTo (dem (sumTo W m) t W P) m ≤ t - (n : Int)
section
variable {m : Nat} {W P : Nat → Int}
theorem Ok.zero (hT : 0 < sumTo W m) (hW : ∀ j, j < m → 0 ≤ W j) : Ok m W 0 (fun _ => 0) where
  lo := fun _ _ => Int.le_refl _
  hi := fun _ _ => Int.le_refl _
  sum := sumTo_zero m
  up := fun j hj => by
    have h := hW j hj
    show (0 : Int) * sumTo W m < ((0 : Nat) : Int) * W j + sumTo W m
    rw [Int.zero_mul]
    show (0 : Int) < (0 : Int) * W j + sumTo W m
    rw [Int.zero_mul]
    omega
  de := fun t ht => by
    have h0 : 0 ≤ t := ht
    have h1 : sumTo (fun j => sumTo W m * dem (sumTo W m) t W (fun _ => 0) j) m ≤ sumTo (fun j => t * W j) m := sumTo_le fun j hj => by
      have hw := hW j hj
      have hp : 0 ≤ t * W j := Int.mul_nonneg h0 hw
      have hq : 0 ≤ t * W j / sumTo W m := Int.ediv_nonneg hp (by omega)
      have e : dem (sumTo W m) t W (fun _ => 0) j = t * W j / sumTo W m := by
        show max 0 (t * W j / sumTo W m - 0) = t * W j / sumTo W m
        omega
      show sumTo W m * dem (sumTo W m) t W (fun _ => 0) j ≤ t * W j
      rw [e]
      exact Int.mul_ediv_self_le (by omega)
    rw [sumTo_mul, sumTo_mul, Int.mul_comm t] at h1
    have h2 := Int.le_of_mul_le_mul_left h1 hT
    show _ ≤ t - (0 : Int)
    omega
/-- one more cent to an eligible index whose next cent is due first -/
theorem Ok.next {n i : Nat} (hT : 0 < sumTo W m) (hW : ∀ j, j < m → 0 ≤ W j) (h : Ok m W n P) (hi : i < m) (he : P i * sumTo W m < ((n : Int) + 1) * W i)
    (hd : ∀ t : Int, ∀ j, j < m → P j * sumTo W m < ((n : Int) + 1) * W j → (P j + 1) * sumTo W m ≤ t * W j → (P i + 1) * sumTo W m ≤ t * W i)
    {P' : Nat → Int} (h1 : P' i = P i + 1) (h2 : ∀ j, j < m → j ≠ i → P' j = P j) : Ok m W (n + 1) P' where
  lo := fun j hj => by
    by_cases e : j = i
    · have q := h.lo i hi
      rw [e, h1]; omega
    · rw [h2 j hj e]; exact h.lo j hj
  hi := fun j hj => by
    by_cases e : j = i
    · have q := h.hi i hi
      rw [e, h1]; omega
    · have q := h.hi j hj
      rw [h2 j hj e]; omega
  sum := by
    have q := sumTo_at (f := P') (g := P) (i := i) (d := 1) hi h2 h1
    have r := h.sum
    omega
  up := fun j hj => by
    have hw := hW j hj
    have ec : ((n + 1 : Nat) : Int) * W j = (n : Int) * W j + W j := by
      rw [Int.natCast_add, Int.add_mul]
      show (n : Int) * W j + 1 * W j = _
      rw [Int.one_mul]
    by_cases e : j = i
    · subst e
      rw [h1, Int.add_mul, Int.one_mul]
      have q := he
      rw [Int.add_mul, Int.one_mul] at q
      omega
    · have q := h.up j hj
      rw [h2 j hj e]
      omega
  de := fun t ht => by
    have ht' : (n : Int) + 1 ≤ t := by
      have : ((n + 1 : Nat) : Int) = (n : Int) + 1 := by omega
      omega
    show _ ≤ t - ((n + 1 : Nat) : Int)
    by_cases c : (P i + 1) * sumTo W m ≤ t * W i
    · -- the cent was due by t
      have hq := (due_iff (t := t) (w := W i) (p := P i) hT).mpr c
      have e1 : dem (sumTo W m) t W P' i = dem (sumTo W m) t W P i + (-1) := by
        unfold dem
        rw [h1, max0, max0, if_pos (by omega), if_pos (by omega)]
        omega
      have e2 := sumTo_at (f := dem (sumTo W m) t W P') (g := dem (sumTo W m) t W P) (i := i) (d := -1) hi (fun j hj ne => by unfold dem; rw [h2 j hj ne]) e1
      have e3 := h.de t (by omega)
      omega
    · -- nothing eligible is due by t
      have b1 : ∀ j, j < m → sumTo W m * dem (sumTo W m) t W P' j ≤ (t - ((n : Int) + 1)) * W j := fun j hj => by
        have hw := hW j hj
        have hnn : 0 ≤ (t - ((n : Int) + 1)) * W j := Int.mul_nonneg (by omega) hw
        have hz : dem (sumTo W m) t W P' j ≤ dem (sumTo W m) t W P j := by
          unfold dem
          by_cases e : j = i
          · rw [e, h1]; omega
          · rw [h2 j hj e]; omega
        have hm := Int.mul_le_mul_of_nonneg_left hz (Int.le_of_lt hT)
        refine Int.le_trans hm ?_
        unfold dem
        rw [max0]
        by_cases z : 0 ≤ t * W j / sumTo W m - P j
        · rw [if_pos z, Int.mul_sub, Int.sub_mul]
          have g1 := Int.mul_ediv_self_le (x := t * W j) (k := sumTo W m) (by omega)
          by_cases el : P j * sumTo W m < ((n : Int) + 1) * W j
          · -- eligible, then not due by t
            have nd : ¬ (P j + 1) * sumTo W m ≤ t * W j := fun q => c (hd t j hj el q)
            have nq : ¬ P j + 1 ≤ t * W j / sumTo W m := fun q => nd ((due_iff hT).mp q)
            have eq : t * W j / sumTo W m = P j := by omega
            rw [eq, Int.sub_self, ← Int.sub_mul]
            exact hnn
          · have g2 : sumTo W m * P j = P j * sumTo W m := Int.mul_comm _ _
            omega
        · rw [if_neg z, Int.mul_zero]
          exact hnn
      have b2 := sumTo_le (f := fun j => sumTo W m * dem (sumTo W m) t W P' j) (g := fun j => (t - ((n : Int) + 1)) * W j) (m := m) b1
      rw [sumTo_mul, sumTo_mul, Int.mul_comm (t - ((n : Int) + 1))] at b2
      have b3 := Int.le_of_mul_le_mul_left b2 hT
      omega
/-- some index is eligible -/
theorem Ok.some_el {n : Nat} (hT : 0 < sumTo W m) (h : Ok m W n P) (hall : ∀ j, j < m → ¬ P j * sumTo W m < ((n : Int) + 1) * W j) : False := by
  have q := sumTo_le (f := fun j => ((n : Int) + 1) * W j) (g := fun j => sumTo W m * P j) (m := m) fun j hj => by
    have z := hall j hj
    show ((n : Int) + 1) * W j ≤ sumTo W m * P j
    rw [Int.mul_comm (sumTo W m)]
    omega
  rw [sumTo_mul, sumTo_mul, h.sum, Int.mul_comm ((n : Int) + 1)] at q
  have r := Int.le_of_mul_le_mul_left q hT
  omega
/-- within a cent -/
theorem Ok.low {n : Nat} (hT : 0 < sumTo W m) (h : Ok m W n P) {j : Nat} (hj : j < m) : (n : Int) * W j < P j * sumTo W m + sumTo W m := by
  have q := h.de (n : Int) (Int.le_refl _)
  have r := sumTo_one (f := dem (sumTo W m) (n : Int) W P) (m := m) (i := j) (fun k _ => by unfold dem; omega) hj
  have z : dem (sumTo W m) (n : Int) W P j ≤ 0 := by omega
  unfold dem at z
  have y : ¬ P j + 1 ≤ (n : Int) * W j / sumTo W m := by omega
  have x : ¬ (P j + 1) * sumTo W m ≤ (n : Int) * W j := fun q => y ((due_iff hT).mpr q)
  rw [Int.add_mul, Int.one_mul] at x
  omega
end

/-! ### the choice -/
def due (p w T : Int) : Int := ((p + 1) * T + w - 1) / w
theorem due_le {p w T t : Int} (hw : 0 < w) : due p w T ≤ t ↔ (p + 1) * T ≤ t * w := by
  have h : due p w T ≤ t ↔ due p w T < t + 1 := by omega
  rw [h]
  unfold due
  have e1 : (t + 1) * w = t * w + w := by rw [Int.add_mul, Int.one_mul]
  rw [Int.ediv_lt_iff_lt_mul hw, e1]
  omega
/-- the law's own way to say it -/
theorem due_law {p w T : Int} (hw : 0 < w) : ((p + 1) * T - 1) / w + 1 = due p w T := by
  unfold due
  have e : (p + 1) * T + w - 1 = ((p + 1) * T - 1) + 1 * w := by omega
  rw [e, Int.add_mul_ediv_right _ _ (by omega)]
def step (c T : Int) (P W : Nat → Int) (st : Option (Nat × Int)) (i : Nat) : Option (Nat × Int) :=
  if P i * T < c * W i then
    match st with
    | none => some (i, due (P i) (W i) T)
    | some (j, d) => if due (P i) (W i) T < d then some (i, due (P i) (W i) T) else some (j, d)
  else st
def scan (c T : Int) (P W : Nat → Int) : Nat → Option (Nat × Int)
  | 0 => none
  | n + 1 => step c T P W (scan c T P W n) n
theorem scan_none {c T : Int} {P W : Nat → Int} : ∀ {n : Nat}, scan c T P W n = none → ∀ j, j < n → ¬ P j * T < c * W j
  | 0, _, j, hj => by omega
  | n + 1, h, j, hj => by
    unfold scan step at h
    by_cases e : P n * T < c * W n
    · rw [if_pos e] at h
      split at h
      · cases h
      · split at h <;> cases h
    · rw [if_neg e] at h
      by_cases q : j = n
      · subst q; exact e
      · exact scan_none h j (by omega)
theorem scan_some {c T : Int} {P W : Nat → Int} : ∀ {n i : Nat} {d : Int}, scan c T P W n = some (i, d) → i < n ∧ P i * T < c * W i ∧ d = due (P i) (W i) T ∧ ∀ j, j < n → P j * T < c * W j → d ≤ due (P j) (W j) T
  | 0, i, d, h => by cases h
  | n + 1, i, d, h => by
    unfold scan step at h
    by_cases e : P n * T < c * W n
    · rw [if_pos e] at h
      split at h
      · rename_i e0
        have q := Option.some.inj h
        cases q
        refine ⟨by omega, e, rfl, fun j hj hj2 => ?_⟩
        by_cases z : j = n
        · subst z; exact Int.le_refl _
        · exact absurd hj2 (scan_none e0 j (by omega))
      · rename_i k d' e0
        obtain ⟨a1, a2, a3, a4⟩ := scan_some e0
        split at h
        · rename_i hlt
          have q := Option.some.inj h
          cases q
          refine ⟨by omega, e, rfl, fun j hj hj2 => ?_⟩
          by_cases z : j = n
          · subst z; exact Int.le_refl _
          · have := a4 j (by omega) hj2
            omega
        · rename_i hge
          have q := Option.some.inj h
          cases q
          refine ⟨by omega, a2, a3, fun j hj hj2 => ?_⟩
          by_cases z : j = n
          · subst z; omega
          · exact a4 j (by omega) hj2
    · rw [if_neg e] at h
      obtain ⟨a1, a2, a3, a4⟩ := scan_some h
      refine ⟨by omega, a2, a3, fun j hj hj2 => ?_⟩
      by_cases z : j = n
      · subst z; exact absurd hj2 e
      · exact a4 j (by omega) hj2

/-! ### over lists -/
def at0 (xs : List Int) (j : Nat) : Int := xs.getD j 0
def pick (c : Int) (ws ps : List Int) : Nat :=
  match scan c ws.sum (at0 ps) (at0 ws) ws.length with
  | some (i, _) => i
  | none => 0
def bump (ps : List Int) (i : Nat) : List Int := ps.set i (at0 ps i + 1)
/-- the parts after n cents -/
def parts (ws : List Int) : Nat → List Int
  | 0 => List.replicate ws.length 0
  | n + 1 => bump (parts ws n) (pick ((n : Int) + 1) ws (parts ws n))
/-- who gets the cent number n + 1 -/
def ix (ws : List Int) (n : Nat) : Nat := pick ((n : Int) + 1) ws (parts ws n)
def order (ws : List Int) (n : Nat) : List Int := (List.range n).map fun k => ((ix ws k : Nat) : Int)
theorem parts_succ (ws : List Int) (n : Nat) : parts ws (n + 1) = bump (parts ws n) (ix ws n) := rfl
theorem order_len (ws : List Int) (n : Nat) : (order ws n).length = n := by
  unfold order
  rw [List.length_map, List.length_range]
theorem order_zero (ws : List Int) : order ws 0 = [] := rfl
theorem order_succ (ws : List Int) (n : Nat) : order ws (n + 1) = order ws n ++ [((ix ws n : Nat) : Int)] := by
  unfold order
  rw [List.range_succ, List.map_append]
  rfl
theorem order_get {ws : List Int} {n k : Nat} (h : k < n) : (order ws n)[k]? = some ((ix ws k : Nat) : Int) := by
  unfold order
  rw [List.getElem?_map, List.getElem?_range h]
  rfl
theorem order_take {ws : List Int} {n k : Nat} (h : k ≤ n) : (order ws n).take k = order ws k := by
  unfold order
  rw [← List.map_take]
  congr 1
  rw [List.take_range]
  congr 1
  omega
theorem bump_len (ps : List Int) (i : Nat) : (bump ps i).length = ps.length := by
  unfold bump
  rw [List.length_set]
theorem parts_len (ws : List Int) : ∀ n, (parts ws n).length = ws.length
  | 0 => by unfold parts; rw [List.length_replicate]
  | n + 1 => by rw [parts_succ, bump_len, parts_len ws n]
theorem at0_get {xs : List Int} {j : Nat} (h : j < xs.length) : xs[j]? = some (at0 xs j) := by
  unfold at0
  rw [List.getElem?_eq_getElem h, List.getD_eq_getElem?_getD, List.getElem?_eq_getElem h]
  rfl
theorem at0_mem {xs : List Int} {j : Nat} (h : j < xs.length) : at0 xs j ∈ xs := List.mem_of_getElem? (at0_get h)
theorem at0_bump_same {ps : List Int} {i : Nat} (h : i < ps.length) : at0 (bump ps i) i = at0 ps i + 1 := by
  unfold bump
  show (ps.set i (at0 ps i + 1)).getD i 0 = _
  rw [List.getD_eq_getElem?_getD, List.getElem?_set_self h]
  rfl
theorem at0_bump_ne {ps : List Int} {i j : Nat} (h : j ≠ i) : at0 (bump ps i) j = at0 ps j := by
  unfold bump
  show (ps.set i (at0 ps i + 1)).getD j 0 = ps.getD j 0
  rw [List.getD_eq_getElem?_getD, List.getElem?_set_ne (Ne.symm h), ← List.getD_eq_getElem?_getD]
theorem sum_append_one (xs : List Int) (x : Int) : (xs ++ [x]).sum = xs.sum + x := by
  rw [List.sum_append]
  simp
theorem sum_eq (xs : List Int) : ∀ n, n ≤ xs.length → (xs.take n).sum = sumTo (at0 xs) n
  | 0, _ => by rw [List.take_zero]; rfl
  | n + 1, h => by
    have ih := sum_eq xs n (by omega)
    have e := at0_get (xs := xs) (j := n) (by omega)
    rw [List.take_add_one, e]
    show (xs.take n ++ [at0 xs n]).sum = sumTo (at0 xs) n + at0 xs n
    rw [sum_append_one, ih]
theorem sum_all (xs : List Int) : xs.sum = sumTo (at0 xs) xs.length := by
  have h := sum_eq xs xs.length (Nat.le_refl _)
  rw [List.take_length] at h
  exact h
/-- the weights of the law -/
structure Good (ws : List Int) : Prop where
  ne : 1 ≤ ws.length
  few : ws.length ≤ 40
  lo : ∀ w ∈ ws, 0 ≤ w
  hi : ∀ w ∈ ws, w ≤ 1000000000
  pos : 0 < ws.sum
theorem pick_of {c : Int} {ws ps : List Int} {i : Nat} {d : Int} (h : scan c ws.sum (at0 ps) (at0 ws) ws.length = some (i, d)) : pick c ws ps = i := by
  unfold pick
  rw [h]
section
variable {ws : List Int}
theorem Good.posT (g : Good ws) : 0 < sumTo (at0 ws) ws.length := by
  have h := g.pos
  rw [sum_all] at h
  exact h
theorem Good.loW (g : Good ws) : ∀ j, j < ws.length → 0 ≤ at0 ws j := fun _ hj => g.lo _ (at0_mem hj)
theorem Good.hiW (g : Good ws) : ∀ j, j < ws.length → at0 ws j ≤ 1000000000 := fun _ hj => g.hi _ (at0_mem hj)
theorem el_pos {c p w T : Int} (hp : 0 ≤ p) (hT : 0 ≤ T) (hw : 0 ≤ w) (h : p * T < c * w) : 0 < w := by
  have h1 := Int.mul_nonneg hp hT
  by_cases e : w = 0
  · subst e
    rw [Int.mul_zero] at h
    omega
  · omega
theorem ok_scan {n : Nat} {ps : List Int} (g : Good ws) (hl : ps.length = ws.length) (h : Ok ws.length (at0 ws) n (at0 ps)) :
    ∃ d, scan ((n : Int) + 1) ws.sum (at0 ps) (at0 ws) ws.length = some (pick ((n : Int) + 1) ws ps, d) ∧ pick ((n : Int) + 1) ws ps < ws.length ∧ Ok ws.length (at0 ws) (n + 1) (at0 (bump ps (pick ((n : Int) + 1) ws ps))) := by
  have hT := g.posT
  have hW := g.loW
  cases e : scan ((n : Int) + 1) ws.sum (at0 ps) (at0 ws) ws.length with
  | none =>
    have q := scan_none e
    rw [sum_all] at q
    exact (h.some_el hT q).elim
  | some z =>
    obtain ⟨i, d⟩ := z
    have ep := pick_of e
    obtain ⟨a1, a2, a3, a4⟩ := scan_some e
    rw [ep]
    refine ⟨d, rfl, a1, ?_⟩
    rw [sum_all] at a2 a3 a4
    refine h.next hT hW a1 a2 (fun t j hj he hd => ?_) (at0_bump_same (by omega)) (fun j hj ne => at0_bump_ne ne)
    have wi := el_pos (h.lo i a1) (Int.le_of_lt hT) (hW i a1) a2
    have wj := el_pos (h.lo j hj) (Int.le_of_lt hT) (hW j hj) he
    have q1 := (due_le (t := t) wj).mpr hd
    have q2 := a4 j hj he
    exact (due_le (t := t) wi).mp (by omega)
theorem at0_replicate (m j : Nat) : at0 (List.replicate m (0 : Int)) j = 0 := by
  unfold at0
  rw [List.getD_eq_getElem?_getD, List.getElem?_replicate]
  split <;> rfl
theorem parts_ok (g : Good ws) : ∀ n, Ok ws.length (at0 ws) n (at0 (parts ws n))
  | 0 => by
    have e : at0 (parts ws 0) = fun _ => 0 := funext fun j => at0_replicate _ j
    rw [e]
    exact Ok.zero g.posT g.loW
  | n + 1 => by
    obtain ⟨d, _, _, h⟩ := ok_scan g (parts_len ws n) (parts_ok g n)
    exact h
theorem parts_scan (g : Good ws) (n : Nat) : ∃ d, scan ((n : Int) + 1) ws.sum (at0 (parts ws n)) (at0 ws) ws.length = some (ix ws n, d) := by
  obtain ⟨d, h, _, _⟩ := ok_scan g (parts_len ws n) (parts_ok g n)
  exact ⟨d, h⟩
theorem ix_lt (g : Good ws) (n : Nat) : ix ws n < ws.length := by
  obtain ⟨_, _, h, _⟩ := ok_scan g (parts_len ws n) (parts_ok g n)
  exact h
/-- within a cent, as the law asks it -/
theorem within (g : Good ws) (n : Nat) {j : Nat} (hj : j < ws.length) :
    (let x := at0 (parts ws n) j * ws.sum - (n : Int) * at0 ws j; (if x < 0 then -x else x) < ws.sum) := by
  have h := parts_ok g n
  have h1 := h.up j hj
  have h2 := h.low g.posT hj
  rw [← sum_all] at h1 h2
  show (if at0 (parts ws n) j * ws.sum - (n : Int) * at0 ws j < 0 then -(at0 (parts ws n) j * ws.sum - (n : Int) * at0 ws j) else at0 (parts ws n) j * ws.sum - (n : Int) * at0 ws j) < ws.sum
  split <;> omega
theorem parts_lo (g : Good ws) (n : Nat) {j : Nat} (hj : j < ws.length) : 0 ≤ at0 (parts ws n) j := (parts_ok g n).lo j hj
theorem parts_hi (g : Good ws) (n : Nat) {j : Nat} (hj : j < ws.length) : at0 (parts ws n) j ≤ (n : Int) := (parts_ok g n).hi j hj
end
end Deal

/-! The walk, part A: the text, small lemmas, the defs of fairbourse.money. -/
namespace K13
open PySem PySem.Spec PyProof.Rows L2 Deal
/-! ### the text by places -/
def topS (i : Nat) : Stmt := PySem.Challenge.pw_fairbourse_k13_deal_whole_within_a_cent.main.body.getD i (.Pass ⟨0, 0, 0, 0⟩)
abbrev sCheck : Stmt := topS 8
abbrev sDue : Stmt := topS 9
abbrev sNext : Stmt := topS 10
abbrev sOrder : Stmt := topS 11
abbrev sDeal : Stmt := topS 12
abbrev sCell : Stmt := topS 14
abbrev sDraws : Stmt := topS 15
abbrev sIsInt : Stmt := topS 16
abbrev sWeights : Stmt := topS 17
abbrev sLNext : Stmt := topS 18
abbrev sLOrder : Stmt := topS 19
abbrev sLaw : Stmt := topS 20
/-! ### what the names of the module hold -/
structure Txt (mg : Str → Option Value) : Prop where
  len : mg "len" = none
  sum : mg "sum" = none
  range : mg "range" = none
  abs : mg "abs" = none
  int : mg "int" = none
  list : mg "list" = none
  isi : mg "isinstance" = none
  bool : mg "bool" = none
  most : ∃ t, mg "MOST_WEIGHTS" = some (.int 40 t)
  lw : ∃ t, mg "LARGEST_WEIGHT" = some (.int 1000000000000000 t)
  ld : ∃ t, mg "LARGEST_DEAL" = some (.int 9999 t)
/-- a def that is called by its name -/
structure Cal (K : PySem.W.Frag) (mg : Str → Option Value) (x : Str) (st : Stmt) (ps : List Str) (f : Addr) (fd : FuncData) : Prop where
  F : Fun K x x st f fd
  g : mg x = some (.ref f)
  b : Binds K fd ps []
/-! ### tests -/
theorem iteP {c A B : Prop} [Decidable c] (hc : c) (h : A) : if decide c = true then A else B := by
  rw [if_pos (decide_eq_true hc)]
  exact h
theorem iteN {c A B : Prop} [Decidable c] (hc : ¬ c) (h : B) : if decide c = true then A else B := by
  rw [if_neg (by intro z; exact hc (of_decide_eq_true z))]
  exact h
theorem iteNP {c A B : Prop} [Decidable c] (hc : ¬ c) (h : A) : if (!decide c) = true then A else B := by
  rw [decide_eq_false hc]
  exact iteT h
theorem ite2d {c A B : Prop} [Decidable c] (h1 : c → A) (h2 : ¬ c → B) : if decide c = true then A else B := by
  by_cases h : c
  · exact iteP h (h1 h)
  · exact iteN h (h2 h)
/-! ### heaps -/
theorem same_new {H H' : Hp} {p : Addr} {o : HO} (s : Same H H') (h : H p = none) : Same H (upd H' p o) := fun b x e => by
  rw [upd_ne (ne_of_none e h)]
  exact s b x e
theorem ne_new {H H' : Hp} {p q : Addr} {o : HO} (e : H' p = some o) (h : H' q = none) : p ≠ q := ne_of_none e h
/-! ### lists of ints -/
theorem ix_at {ps : List Int} {i : Nat} {z : Int} (e : z = (i : Int)) (h : i < ps.length) : atI (ps.map V.int) z = some (V.int (at0 ps i)) :=
  at_of e (by rw [List.getElem?_map, at0_get h]; rfl)
theorem ixN_nat {n i : Nat} {z : Int} (e : z = (i : Int)) (h : i < n) : ixN n z = some i := by
  subst e
  unfold ixN
  rw [if_pos (by omega), if_pos (by omega)]
  rfl
theorem set_map {ps : List Int} {i : Nat} {z : Int} : (ps.map V.int).set i (V.int z) = (ps.set i z).map V.int := by
  rw [List.map_set]
theorem mlen (ps : List Int) : (ps.map V.int).length = ps.length := List.length_map ..
theorem map_at {ps : List Int} {i : Nat} (h : i < ps.length) : (ps.map V.int)[i]? = some (V.int (at0 ps i)) := by
  rw [List.getElem?_map, at0_get h]
  rfl
theorem small_of {n : Nat} (h : n ≤ 10000) : n < sizeLine := Nat.lt_of_le_of_lt h (by decide)
theorem int_of {ns : List Int} {i : Nat} {y : V} (h : (ns.map V.int)[i]? = some y) : i < ns.length ∧ y = V.int (at0 ns i) := by
  have h1 : i < ns.length := by
    have q := (List.getElem?_eq_some_iff.mp h).1
    rw [mlen] at q
    exact q
  rw [List.getElem?_map, at0_get h1] at h
  exact ⟨h1, (Option.some.inj h).symm⟩
section
variable {X : Cx}
/-- what «xs[i] += e» asks of the place that it reads: an index from 0 up, within the list -/
def rReadAt (K : PySem.W.Frag) (o i : V) (H : Hp) (Q : VK) : Prop := ∃ (p : Addr) (xs : List V) (j : Nat) (v : V), o = .ref p ∧ i = .int (j : Int) ∧ SqL K H p xs ∧ xs[j]? = some v ∧ Q v H
theorem get_list : PGet X (rReadAt X.K) := fun pins s σ H o i ov iv Q inv ro ri ⟨p, xs, j, v, eo, ei, there, item, wish⟩ => by
  subst eo ei
  obtain ⟨tok, eiv⟩ : ∃ t, iv = Value.int (j : Int) t := ri
  have eov : ov = Value.ref p := ro
  subst eiv eov
  obtain ⟨us, alike, stands, most⟩ := inv.list there
  obtain ⟨val, at_j, rel⟩ := alike.get item
  have below : j < us.length := (List.getElem?_eq_some_iff.mp at_j).1
  have as_long := alike.length
  have far := line63
  refine wpAny_getItem_list stands.isList (Int.natCast_nonneg j) (by omega) ?_ ⟨v, H, inv, rel, wish⟩
  show us.toArray[((j : Nat) : Int).toNat]? = some val
  rw [Int.toNat_natCast, List.getElem?_toArray]
  exact at_j
end
section
variable {P : Program} {w : World} {K : PySem.W.Frag} {mg : Str → Option Value} {base : Heap}
/-! ### check_weights -/
def spCheck (K : PySem.W.Frag) : Sp := fun vs H Q _ => ∃ (m : Int) (a : Addr) (ws : List Int), vs = [.int m, .ref a] ∧ SqL K H a (ws.map V.int) ∧ Good ws ∧ Q .non H
theorem scCheck : FnScope ["amount", "weights", "weight"] ["amount", "weights"] (defScope sCheck) := ⟨rfl, rfl, rfl, by decide +kernel, rfl, by decide +kernel, by decide +kernel⟩
theorem ok_check {f : Addr} {fd : FuncData} (F : Fun K "check_weights" "check_weights" sCheck f fd) (T : Txt mg) : FnOk P w K mg base CX0 1 f fd ["amount", "weights"] (spCheck K) := by
  refine F.ok scCheck (fun vs H Q E h => ?_) (fun cdv A outer s H vs Q E hr h => ?_)
  · obtain ⟨m, a, ws, rfl, _⟩ := h
    rfl
  · obtain ⟨m, a, ws, rfl, hS, g, q⟩ := h
    obtain ⟨tm, gm⟩ := T.most
    obtain ⟨tl, gl⟩ := T.lw
    have g1 := g.ne
    have g2 := g.few
    refine ⟨_, pss_cons (ps_if (pt_not (pt_chain op_le op_le pe_int (pe_callB call_len_seq (by rfl) T.len PySem.boot_len (pa_cons (pv 1) pa_nil)) (pe_glob (v := .int 40) rfl gm ⟨_, rfl⟩))) pss_never pss_nil)
      (pss_cons (ps_for PassesOwn.never rfl (pi_list (pv 1)) (pg_name (i := 2) scCheck.nd rfl (.inl rfl))
        (pss_one (ps_if (pt_not (pt_chain op_le op_le pe_int (pv 2) (pe_glob (v := .int 1000000000000000) rfl gl ⟨_, rfl⟩))) pss_never pss_nil)))
      (pss_one (ps_if (PW.pt (pw_and (pt_cmpR op_gt (pv 0) pe_int (nomark _)) (pw_and1 (pt_cmpR op_eq (pe_callB (cr_sum rfl) (by rfl) T.sum boot_sum (pa_cons (pv 1) pa_nil)) pe_int (nomark _))))) pss_never pss_nil))), ?_⟩
    -- 1 <= len(weights) <= MOST_WEIGHTS
    refine ⟨_, rfl, a, _, rfl, .inl hS, _, _, rfl, rfl, _, rfl, ?_⟩
    refine iteP (by rw [mlen]; omega) ?_
    refine ⟨_, _, rfl, rfl, _, rfl, ?_⟩
    refine iteNS (by rw [mlen]; omega) ?_
    -- the weights
    refine ⟨_, rfl, a, rfl, ⟨_, hS⟩, for_list (K := K) (a := a) (xs := ws.map V.int) (fun i σ H' => H' = H ∧ ∃ v, σ = [some (.int m), some (.ref a), v]) ⟨rfl, _, rfl⟩ (fun i σ H' _ z => by rw [z.1]; exact hS) ?_ ?_⟩
    · rintro i y σ H' hi ⟨eH, v, rfl⟩
      obtain ⟨hi2, rfl⟩ := int_of hi
      have l1 := g.loW i hi2
      have l2 := g.hiW i hi2
      refine ⟨_, rfl, _, _, rfl, rfl, _, rfl, ?_⟩
      refine iteP l1 ?_
      refine ⟨_, _, rfl, rfl, _, rfl, ?_⟩
      refine iteNS (by omega) ?_
      exact ⟨eH, _, rfl⟩
    · rintro σ H' ⟨rfl, v, rfl⟩
      refine ⟨_, rfl, _, _, rfl, rfl, _, rfl, ?_⟩
      refine ite2d (fun _ => ?_) (fun _ => iteF q)
      refine ⟨_, rfl, a, ws, rfl, hS, rfl, _, rfl, ?_⟩
      refine iteN (fun e => ?_) q
      have e2 := g.pos
      injection e with e3
      omega
/-! ### due_count -/
def spDue : Sp := fun vs H Q _ => ∃ (p wt T : Int), vs = [.int p, .int wt, .int T] ∧ (0 ≤ p ∧ p ≤ 20000) ∧ (0 < wt ∧ wt ≤ 1000000000) ∧ Q (.int ((p * T + wt - 1) / wt)) H
theorem scDue : FnScope ["part", "weight", "total"] ["part", "weight", "total"] (defScope sDue) := ⟨rfl, rfl, rfl, by decide +kernel, rfl, by decide +kernel, by decide +kernel⟩
theorem ok_due {f : Addr} {fd : FuncData} (F : Fun K "due_count" "due_count" sDue f fd) : FnOk P w K mg base CX0 1 f fd ["part", "weight", "total"] spDue := by
  refine F.ok scDue (fun vs H Q E h => ?_) (fun cdv A outer s H vs Q E hr h => ?_)
  · obtain ⟨p, wt, T, rfl, _⟩ := h
    rfl
  · obtain ⟨p, wt, T, rfl, hp, hw, q⟩ := h
    refine ⟨_, pss_one (ps_ret (pe_op op_fdiv (pe_op op_sub (pe_op op_add (pe_op op_mul (pv 0) (pv 2)) (pv 1)) pe_int) (pv 1))), ?_⟩
    exact ⟨_, rfl, _, rfl, _, _, rfl, rfl, .inl ⟨by omega, by omega⟩, _, rfl, _, _, rfl, rfl, _, _, rfl, rfl, _, rfl, _, _, rfl, rfl, ⟨by omega, by omega⟩, q⟩
/-! ### next_turn -/
def pickV : Option (Nat × Int) → V
  | none => .non
  | some (i, _) => .int (i : Int)
def dueI : Option (Nat × Int) → Int
  | none => 0
  | some (_, d) => d
/-- the sizes that the two scans ask -/
structure Fit (c T : Int) (ps ws : List Int) : Prop where
  len : ps.length = ws.length
  c0 : 0 ≤ c
  c1 : c ≤ 20000
  p0 : ∀ j, j < ws.length → 0 ≤ at0 ps j
  p1 : ∀ j, j < ws.length → at0 ps j ≤ 10000
  w0 : ∀ j, j < ws.length → 0 ≤ at0 ws j
  w1 : ∀ j, j < ws.length → at0 ws j ≤ 1000000000
  T0 : 0 ≤ T
  few : ws.length ≤ 40
theorem Fit.of {ws : List Int} (g : Good ws) {n : Nat} (h : n ≤ 9999) : Fit ((n : Int) + 1) ws.sum (parts ws n) ws where
  len := parts_len ws n
  c0 := by omega
  c1 := by omega
  p0 := fun j hj => parts_lo g n hj
  p1 := fun j hj => by have := parts_hi g n hj; omega
  w0 := g.loW
  w1 := g.hiW
  T0 := Int.le_of_lt g.pos
  few := g.few
def spNext (K : PySem.W.Frag) : Sp := fun vs H Q _ => ∃ (c T : Int) (a b : Addr) (ps ws : List Int), vs = [.int c, .ref a, .ref b, .int T] ∧ SqL K H a (ps.map V.int) ∧ SqL K H b (ws.map V.int) ∧ Fit c T ps ws ∧
  Q (pickV (scan c T (at0 ps) (at0 ws) ws.length)) H
theorem scNext : FnScope ["count", "parts", "weights", "total", "chosen", "chosen_due", "index", "due"] ["count", "parts", "weights", "total"] (defScope sNext) := ⟨rfl, rfl, rfl, by decide +kernel, rfl, by decide +kernel, by decide +kernel⟩
theorem ok_next {f fD : Addr} {fd fdD : FuncData} (F : Fun K "next_turn" "next_turn" sNext f fd) (T : Txt mg) (CD : Cal K mg "due_count" sDue ["part", "weight", "total"] fD fdD) : FnOk P w K mg base CX0 2 f fd ["count", "parts", "weights", "total"] (spNext K) := by
  have GD : FnOk P w K mg base CX0 1 fD fdD ["part", "weight", "total"] spDue := ok_due CD.F
  refine F.ok scNext (fun vs H Q E h => ?_) (fun cdv A outer s H vs Q E hr h => ?_)
  · obtain ⟨c, T, a, b, ps, ws, rfl, _⟩ := h
    rfl
  · obtain ⟨c, tot, a, b, ps, ws, rfl, hA, hB, ft, q⟩ := h
    refine ⟨_, pss_cons (ps_set (i := 4) scNext.nd rfl (.inl rfl) pe_non) (pss_cons (ps_set (i := 5) scNext.nd rfl (.inl rfl) pe_int)
      (pss_cons (ps_for PassesOwn.never rfl (pi_range1 (by rfl) T.range (pa_cons (pe_callB call_len_seq (by rfl) T.len PySem.boot_len (pa_cons (pv 2) pa_nil)) pa_nil)) (pg_name (i := 6) scNext.nd rfl (.inl rfl))
        (pss_one (ps_if (pt_cmpR op_lt (pe_op op_mul (pe_ix ix_list (pv 1) (pv 6) (fun _ _ => rfl)) (pv 3)) (pe_op op_mul (pv 0) (pe_ix ix_list (pv 2) (pv 6) (fun _ _ => rfl))) (nomark _))
          (pss_cons (ps_set (i := 7) scNext.nd rfl (.inl rfl) (pe_call GD hr rfl CD.g CD.F.kp CD.b .nil pass0 (pa_cons (pe_op op_add (pe_ix ix_list (pv 1) (pv 6) (fun _ _ => rfl)) pe_int) (pa_cons (pe_ix ix_list (pv 2) (pv 6) (fun _ _ => rfl)) (pa_cons (pv 3) pa_nil)))))
            (pss_one (ps_if (PW.pt (pw_or (pt_cmpR op_isN (pv 4) pe_non (nomark _)) (pw_or1 (pt_cmpR op_lt (pv 7) (pv 5) (nomark _)))))
              (pss_cons (ps_set (i := 4) scNext.nd rfl (.inl rfl) (pv 6)) (pss_one (ps_set (i := 5) scNext.nd rfl (.inl rfl) (pv 7)))) pss_nil)))
          pss_nil)))
      (pss_one (ps_ret (pv 4))))), ?_⟩
    have f1 := ft.few
    refine ⟨_, rfl, b, _, rfl, .inl hB, _, rfl, by omega, by rw [mlen]; omega, for_range (lo := 0) (n := (ws.map V.int).length)
      (fun i σ H' => H' = H ∧ ∃ v6 v7, σ = [some (.int c), some (.ref a), some (.ref b), some (.int tot), some (pickV (scan c tot (at0 ps) (at0 ws) i)), some (.int (dueI (scan c tot (at0 ps) (at0 ws) i))), v6, v7]) ⟨rfl, none, none, rfl⟩ ?_ ?_⟩
    · rintro i σ H' hi ⟨rfl, v6, v7, rfl⟩
      rw [mlen] at hi
      have hl := ft.len
      have p0 := ft.p0 i hi
      have p1 := ft.p1 i hi
      have w0 := ft.w0 i hi
      have w1 := ft.w1 i hi
      have c0 := ft.c0
      have c1 := ft.c1
      have e0 : (0 : Int) + (i : Int) = (i : Int) := by omega
      have ixA : atI (ps.map V.int) (0 + (i : Int)) = some (V.int (at0 ps i)) := ix_at e0 (by omega)
      have ixB : atI (ws.map V.int) (0 + (i : Int)) = some (V.int (at0 ws i)) := ix_at e0 hi
      refine ⟨_, rfl, _, rfl, a, _, _, _, rfl, rfl, hA, ixA, _, rfl, _, _, rfl, rfl, .inl ⟨by omega, by omega⟩, _, rfl, _, rfl, _, rfl, b, _, _, _, rfl, rfl, hB, ixB, _, _, rfl, rfl, .inl ⟨by omega, by omega⟩, _, _, rfl, rfl, _, rfl, ?_⟩
      refine ite2d (fun el => ?_) (fun el => ?_)
      · have wp := el_pos p0 ft.T0 w0 el
        refine ⟨_, rfl, _, rfl, a, _, _, _, rfl, rfl, hA, ixA, _, _, rfl, rfl, _, rfl, _, rfl, b, _, _, _, rfl, rfl, hB, ixB, _, rfl, _, _, _, rfl, ⟨by omega, by omega⟩, ⟨wp, w1⟩, ?_⟩
        cases es : scan c tot (at0 ps) (at0 ws) i with
        | none =>
          refine ⟨_, rfl, rfl, _, rfl, ?_⟩
          refine iteP rfl (iteT ?_)
          refine ⟨_, rfl, _, rfl, rfl, some (.int (0 + (i : Int))), some (.int (due (at0 ps i) (at0 ws i) tot)), ?_⟩
          have e1 : scan c tot (at0 ps) (at0 ws) (i + 1) = some (i, due (at0 ps i) (at0 ws i) tot) := by
            show Deal.step c tot (at0 ps) (at0 ws) (scan c tot (at0 ps) (at0 ws) i) i = _
            rw [es]
            unfold Deal.step
            rw [if_pos el]
          rw [e1, e0]
          rfl
        | some z =>
          obtain ⟨j, d⟩ := z
          refine ⟨_, rfl, rfl, _, rfl, ?_⟩
          refine iteN (fun z => by cases z) ?_
          refine ⟨_, rfl, _, rfl, _, _, rfl, rfl, _, rfl, ?_⟩
          refine ite2d (fun lt => ?_) (fun lt => ?_)
          · refine ⟨_, rfl, _, rfl, rfl, some (.int (0 + (i : Int))), some (.int (due (at0 ps i) (at0 ws i) tot)), ?_⟩
            have e1 : scan c tot (at0 ps) (at0 ws) (i + 1) = some (i, due (at0 ps i) (at0 ws i) tot) := by
              show Deal.step c tot (at0 ps) (at0 ws) (scan c tot (at0 ps) (at0 ws) i) i = _
              rw [es]
              unfold Deal.step
              rw [if_pos el]
              exact if_pos lt
            rw [e1, e0]
            rfl
          · refine ⟨rfl, some (.int (0 + (i : Int))), some (.int (due (at0 ps i) (at0 ws i) tot)), ?_⟩
            have e1 : scan c tot (at0 ps) (at0 ws) (i + 1) = some (j, d) := by
              show Deal.step c tot (at0 ps) (at0 ws) (scan c tot (at0 ps) (at0 ws) i) i = _
              rw [es]
              unfold Deal.step
              rw [if_pos el]
              exact if_neg lt
            rw [e1]
            rfl
      · refine ⟨rfl, some (.int (0 + (i : Int))), v7, ?_⟩
        have e1 : scan c tot (at0 ps) (at0 ws) (i + 1) = scan c tot (at0 ps) (at0 ws) i := by
          show Deal.step c tot (at0 ps) (at0 ws) (scan c tot (at0 ps) (at0 ws) i) i = _
          unfold Deal.step
          rw [if_neg el]
        rw [e1]
        rfl
    · rintro σ H' ⟨rfl, v6, v7, rfl⟩
      rw [mlen]
      exact ⟨_, rfl, q⟩
end
end K13

/-! The walk, part B: deal_order, deal. -/
namespace K13
open PySem PySem.Spec PyProof.Rows L2 Deal
theorem zeros (n : Nat) : List.replicate n (V.int 0) = (List.replicate n (0 : Int)).map V.int := by rw [List.map_replicate]
theorem rep_snoc {α : Type} (x : α) (i : Nat) : List.replicate i x ++ [x] = List.replicate (i + 1) x := by
  rw [List.replicate_succ']
theorem parts_zero (ws : List Int) : List.replicate (ws.map V.int).length (V.int 0) = (parts ws 0).map V.int := by
  rw [mlen, zeros]
  rfl
section
variable {P : Program} {w : World} {K : PySem.W.Frag} {mg : Str → Option Value} {base : Heap}
/-! ### deal_order -/
def spOrder (K : PySem.W.Frag) : Sp := fun vs H Q _ => ∃ (n : Nat) (a : Addr) (ws : List Int), vs = [.int (n : Int), .ref a] ∧ n ≤ 9999 ∧ SqL K H a (ws.map V.int) ∧ Good ws ∧
  ∀ H' p, Same H H' → H p = none → H' p = some (.lst ((order ws n).map V.int)) → Q (.ref p) H'
theorem scOrder : FnScope ["amount", "weights", "total", "parts", "order", "count", "index", "weight"] ["amount", "weights"] (defScope sOrder) := ⟨rfl, rfl, rfl, by decide +kernel, rfl, by decide +kernel, by decide +kernel⟩
theorem ok_order {f fC fN fD : Addr} {fd fdC fdN fdD : FuncData} (F : Fun K "deal_order" "deal_order" sOrder f fd) (T : Txt mg) (CC : Cal K mg "check_weights" sCheck ["amount", "weights"] fC fdC)
    (CN : Cal K mg "next_turn" sNext ["count", "parts", "weights", "total"] fN fdN) (CD : Cal K mg "due_count" sDue ["part", "weight", "total"] fD fdD) : FnOk P w K mg base CX0 3 f fd ["amount", "weights"] (spOrder K) := by
  have GC : FnOk P w K mg base CX0 1 fC fdC ["amount", "weights"] (spCheck K) := ok_check CC.F T
  have GN : FnOk P w K mg base CX0 2 fN fdN ["count", "parts", "weights", "total"] (spNext K) := ok_next CN.F T CD
  refine F.ok scOrder (fun vs H Q E h => ?_) (fun cdv A outer s H vs Q E hr h => ?_)
  · obtain ⟨n, a, ws, rfl, _⟩ := h
    rfl
  · obtain ⟨n, a, ws, rfl, hn, hS, g, q⟩ := h
    obtain ⟨td, gd⟩ := T.ld
    refine ⟨_, pss_cons (ps_if (pt_not (pt_chain op_le op_le pe_int (pv 0) (pe_glob (v := .int 9999) rfl gd ⟨_, rfl⟩))) pss_never pss_nil)
      (pss_cons (ps_expr (pe_call GC (hr.mono (by decide)) rfl CC.g CC.F.kp CC.b .nil pass0 (pa_cons (pv 0) (pa_cons (pv 1) pa_nil))))
      (pss_cons (ps_set (i := 2) scOrder.nd rfl (.inl rfl) (pe_callB (cr_sum rfl) (by rfl) T.sum boot_sum (pa_cons (pv 1) pa_nil)))
      (pss_cons (ps_setLc (i := 3) (own := [("weight", 7)]) (g := gName 7) (tt := tYes) rfl scOrder.nd rfl rfl (sw_true rfl rfl rfl (by decide +kernel)) (pi_list (pv 1))
        (blkOk_by (N := ["amount", "weights", "total", "parts", "order", "count", "index", "weight"]) (sc := defScope sOrder) (by decide +kernel)) (fun _ _ _ _ _ => pg_name (i := 7) scOrder.nd rfl (Or.inl rfl)) (fun _ _ _ _ _ => pts_nil) (fun _ _ _ _ _ => pe_int))
      (pss_cons (ps_set (i := 4) scOrder.nd rfl (.inl rfl) (pe_lst pa_nil))
      (pss_cons (ps_for PassesOwn.never rfl (pi_range2 (by rfl) T.range (pa_cons pe_int (pa_cons (pe_op op_add (pv 0) pe_int) pa_nil))) (pg_name (i := 5) scOrder.nd rfl (.inl rfl))
        (pss_cons (ps_set (i := 6) scOrder.nd rfl (.inl rfl) (pe_call GN hr rfl CN.g CN.F.kp CN.b .nil pass0 (pa_cons (pv 5) (pa_cons (pv 3) (pa_cons (pv 1) (pa_cons (pv 2) pa_nil))))))
        (pss_cons (ps_augS (pv 3) (pv 6) get_list pe_int ip_add set_list)
        (pss_one (ps_expr (pe_bm PySem.F.plainAttrs_list PySem.F.slot_list_append PySem.F.type_list_append mt_append (pv 4) (pa_cons (pv 6) pa_nil)))))))
      (pss_one (ps_ret (pv 4)))))))), ?_⟩
    -- 0 <= amount <= LARGEST_DEAL
    refine ⟨_, rfl, _, _, rfl, rfl, _, rfl, ?_⟩
    refine iteP (by omega) ?_
    refine ⟨_, _, rfl, rfl, _, rfl, ?_⟩
    refine iteNS (by omega) ?_
    -- check_weights, the total
    refine ⟨_, rfl, _, rfl, _, a, ws, rfl, hS, g, ?_⟩
    refine ⟨_, rfl, a, ws, rfl, hS, ?_⟩
    -- parts
    refine ⟨_, rfl, a, rfl, ⟨_, hS⟩, fun p np => lc_list (K := K) (a := a) (xs := ws.map V.int) (fun i H' => H' = upd H p (.lst (List.replicate i (V.int 0)))) rfl (fun i H' _ e => by rw [e]; exact (same_new (Same.refl H) np).seq hS) ?_ ?_⟩
    · rintro i x H' hx rfl
      have hi := (int_of hx).1
      have hf := g.few
      refine ⟨rfl, _, upd_same, by rw [List.length_replicate]; exact small_of (by omega), ?_⟩
      rw [upd_upd, rep_snoc]
    rintro H' rfl
    rw [parts_zero]
    -- order
    refine ⟨Nat.zero_le _, fun o no => ?_⟩
    have npo : p ≠ o := ne_of_none upd_same no
    have no0 : H o = none := by
      rw [upd_ne npo.symm] at no
      exact no
    refine ⟨_, rfl, _, _, rfl, rfl, 1, (n : Int) + 1, rfl, ⟨by omega, by omega, by omega, by omega⟩, for_range (lo := 1) (n := ((n : Int) + 1 - 1).toNat)
      (fun i σ H' => ∃ v5 v6, σ = [some (.int (n : Int)), some (.ref a), some (.int ws.sum), some (.ref p), some (.ref o), v5, v6, none] ∧ Same H H' ∧ H' p = some (.lst ((parts ws i).map V.int)) ∧ H' o = some (.lst ((order ws i).map V.int)))
      ⟨none, none, rfl, same_new (same_new (Same.refl H) np) no0, by rw [upd_ne npo, upd_same], by rw [upd_same]; rfl⟩ ?_ ?_⟩
    · rintro i σ H' hi ⟨v5, v6, rfl, sm, hp, ho⟩
      have hi2 : i < n := by omega
      have hlt := ix_lt g i
      have hpl := parts_len ws i
      obtain ⟨d, hsc⟩ := parts_scan g i
      -- index = next_turn(count, parts, weights, total)
      refine ⟨_, rfl, _, rfl, _, rfl, _, rfl, (1 : Int) + (i : Int), ws.sum, p, a, parts ws i, ws, rfl, SqL.of hp, sm.seq hS, by rw [Int.add_comm]; exact Fit.of g (by omega), ?_⟩
      rw [Int.add_comm 1 (i : Int), hsc]
      -- parts[index] += 1
      refine ⟨_, rfl, _, rfl, p, _, ix ws i, _, rfl, rfl, SqL.of hp, map_at (by omega), _, _, rfl, rfl, p, _, _, ix ws i, rfl, rfl, hp, ixN_nat rfl (by rw [mlen]; omega), ?_⟩
      rw [set_map]
      -- order.append(index)
      have ho2 : upd H' p (.lst (((parts ws i).set (ix ws i) (at0 (parts ws i) (ix ws i) + 1)).map V.int)) o = some (.lst ((order ws i).map V.int)) := by
        rw [upd_ne npo.symm]
        exact ho
      refine ⟨_, rfl, .inl ⟨rfl, _, SqL.of ho2⟩, _, rfl, o, _, _, rfl, rfl, ho2, by rw [mlen, order_len]; exact small_of (by omega), ?_⟩
      refine ⟨_, _, rfl, same_new (same_new sm np) no0, ?_, ?_⟩
      · rw [upd_ne npo, upd_same]
        rfl
      · rw [upd_same, order_succ, List.map_append]
        rfl
    · rintro σ H' ⟨v5, v6, rfl, sm, hp, ho⟩
      have en : ((n : Int) + 1 - 1).toNat = n := by omega
      rw [en] at ho
      exact ⟨_, rfl, q H' o sm no0 ho⟩
/-! ### deal -/
def spDeal (K : PySem.W.Frag) : Sp := fun vs H Q _ => ∃ (n : Nat) (a : Addr) (ws : List Int), vs = [.int (n : Int), .ref a] ∧ n ≤ 9999 ∧ SqL K H a (ws.map V.int) ∧ Good ws ∧
  ∀ H' p, Same H H' → H p = none → H' p = some (.lst ((parts ws n).map V.int)) → Q (.ref p) H'
theorem scDeal : FnScope ["amount", "weights", "parts", "index", "weight"] ["amount", "weights"] (defScope sDeal) := ⟨rfl, rfl, rfl, by decide +kernel, rfl, by decide +kernel, by decide +kernel⟩
theorem ok_deal {f fO : Addr} {fd fdO : FuncData} (F : Fun K "deal" "deal" sDeal f fd) (T : Txt mg) (CO : Cal K mg "deal_order" sOrder ["amount", "weights"] fO fdO)
    (GO : FnOk P w K mg base CX0 3 fO fdO ["amount", "weights"] (spOrder K)) : FnOk P w K mg base CX0 4 f fd ["amount", "weights"] (spDeal K) := by
  refine F.ok scDeal (fun vs H Q E h => ?_) (fun cdv A outer s H vs Q E hr h => ?_)
  · obtain ⟨n, a, ws, rfl, _⟩ := h
    rfl
  · obtain ⟨n, a, ws, rfl, hn, hS, g, q⟩ := h
    refine ⟨_, pss_cons (ps_setLc (i := 2) (own := [("weight", 4)]) (g := gName 4) (tt := tYes) rfl scDeal.nd rfl rfl (sw_true rfl rfl rfl (by decide +kernel)) (pi_list (pv 1))
        (blkOk_by (N := ["amount", "weights", "parts", "index", "weight"]) (sc := defScope sDeal) (by decide +kernel)) (fun _ _ _ _ _ => pg_name (i := 4) scDeal.nd rfl (Or.inl rfl)) (fun _ _ _ _ _ => pts_nil) (fun _ _ _ _ _ => pe_int))
      (pss_cons (ps_for PassesOwn.never rfl (pi_list (pe_call GO hr rfl CO.g CO.F.kp CO.b .nil pass0 (pa_cons (pv 0) (pa_cons (pv 1) pa_nil)))) (pg_name (i := 3) scDeal.nd rfl (.inl rfl))
        (pss_one (ps_augS (pv 2) (pv 3) get_list pe_int ip_add set_list)))
      (pss_one (ps_ret (pv 2)))), ?_⟩
    refine ⟨_, rfl, a, rfl, ⟨_, hS⟩, fun p np => lc_list (K := K) (a := a) (xs := ws.map V.int) (fun i H' => H' = upd H p (.lst (List.replicate i (V.int 0)))) rfl (fun i H' _ e => by rw [e]; exact (same_new (Same.refl H) np).seq hS) ?_ ?_⟩
    · rintro i x H' hx rfl
      have hi := (int_of hx).1
      have hf := g.few
      refine ⟨rfl, _, upd_same, by rw [List.length_replicate]; exact small_of (by omega), ?_⟩
      rw [upd_upd, rep_snoc]
    rintro H' rfl
    rw [parts_zero]
    have s1 : Same H (upd H p (.lst ((parts ws 0).map V.int))) := same_new (Same.refl H) np
    refine ⟨_, rfl, _, rfl, n, a, ws, rfl, hn, s1.seq hS, g, fun H1 o sm no ho => ⟨o, rfl, ⟨_, SqL.of ho⟩, for_list (K := K) (a := o) (xs := (order ws n).map V.int)
      (fun i σ H' => ∃ v3, σ = [some (.int (n : Int)), some (.ref a), some (.ref p), v3, none] ∧ Same H H' ∧ H' p = some (.lst ((parts ws i).map V.int)) ∧ H' o = some (.lst ((order ws n).map V.int)))
      ⟨none, rfl, s1.trans sm, sm _ _ upd_same, ho⟩ (fun i σ H' _ z => by obtain ⟨_, _, _, _, h⟩ := z; exact SqL.of h) ?_ ?_⟩⟩
    · have npo : p ≠ o := ne_of_none upd_same no
      rintro i y σ H' hy ⟨v3, rfl, sm, hp, ho⟩
      obtain ⟨hi, rfl⟩ := int_of hy
      rw [order_len] at hi
      have hlt := ix_lt g i
      have hpl := parts_len ws i
      have eo : at0 (order ws n) i = ((ix ws i : Nat) : Int) := by
        have e1 := order_get (ws := ws) hi
        rw [at0_get (by rw [order_len]; exact hi)] at e1
        exact Option.some.inj e1
      rw [eo]
      refine ⟨_, rfl, _, rfl, p, _, ix ws i, _, rfl, rfl, SqL.of hp, map_at (by omega), _, _, rfl, rfl, p, _, _, ix ws i, rfl, rfl, hp, ixN_nat rfl (by rw [mlen]; omega), ?_⟩
      rw [set_map]
      exact ⟨_, rfl, same_new sm np, by rw [upd_same]; rfl, by rw [upd_ne npo.symm]; exact ho⟩
    · rintro σ H' ⟨v3, rfl, sm, hp, ho⟩
      rw [mlen, order_len] at hp
      exact ⟨_, rfl, q H' p sm np hp⟩
end
end K13

/-! The walk, part C: the law's helpers that make its input. -/
namespace K13
open PySem PySem.Spec PyProof.Rows L2 Deal
section
variable {P : Program} {w : World} {K : PySem.W.Frag} {mg : Str → Option Value} {base : Heap}
/-! ### _law_cell -/
def spCellK (K : PySem.W.Frag) : Sp := fun vs H Q _ => ∃ (a : Addr) (ns : List Int) (k : Nat), vs = [.ref a, .int (k : Int)] ∧ SqL K H a (ns.map V.int) ∧ ∀ z : Int, Q (.int z) H
theorem scCell : FnScope ["_law_script", "_law_k"] ["_law_script", "_law_k"] (defScope sCell) := ⟨rfl, rfl, rfl, by decide +kernel, rfl, by decide +kernel, by decide +kernel⟩
theorem ok_cell {f : Addr} {fd : FuncData} (F : Fun K "_law_cell" "_law_cell" sCell f fd) (T : Txt mg) : FnOk P w K mg base CX0 1 f fd ["_law_script", "_law_k"] (spCellK K) := by
  refine F.ok scCell (fun vs H Q E h => ?_) (fun cdv A outer s H vs Q E hr h => ?_)
  · obtain ⟨a, ns, k, rfl, _⟩ := h
    rfl
  · obtain ⟨a, ns, k, rfl, hS, q⟩ := h
    refine ⟨_, pss_cons (ps_if (pt_cmpR op_lt (pv 1) (pe_callB call_len_seq (by rfl) T.len PySem.boot_len (pa_cons (pv 0) pa_nil)) (nomark _)) (pss_one (ps_ret (pe_ix ix_list (pv 0) (pv 1) (fun _ _ => rfl)))) pss_nil)
      (pss_one (ps_ret pe_int)), ?_⟩
    refine ⟨_, rfl, _, rfl, a, _, rfl, .inl hS, _, _, rfl, rfl, _, rfl, ?_⟩
    refine ite2d (fun lt => ?_) (fun _ => q 0)
    rw [mlen] at lt
    exact ⟨_, rfl, _, rfl, a, _, _, _, rfl, rfl, hS, ix_at rfl (by omega), q _⟩
/-! ### _law_draws -/
def spDraws : Sp := fun vs H Q _ => ∃ (c : Int) (m : Nat) (z : Int), vs = [.int c, .int (m : Int), .int z] ∧ m ≤ 40 ∧ (0 < z ∧ z ≤ 1000000001) ∧
  ∀ (H' : Hp) (p : Addr) (ds : List Int), Same H H' → H p = none → H' p = some (.lst (ds.map V.int)) → ds.length = m → (∀ d ∈ ds, 0 ≤ d ∧ d < z) → Q (.ref p) H'
theorem scDraws : FnScope ["_law_cell_here", "_law_count", "_law_size", "_law_draws_here", "_law_rest", "_law_k"] ["_law_cell_here", "_law_count", "_law_size"] (defScope sDraws) := ⟨rfl, rfl, rfl, by decide +kernel, rfl, by decide +kernel, by decide +kernel⟩
theorem mod_in (x : Int) {z : Int} (h : 0 < z) : 0 ≤ x % z ∧ x % z < z := ⟨Int.emod_nonneg x (by omega), Int.emod_lt_of_pos x h⟩
theorem all_snoc {ds : List Int} {d z : Int} (h : ∀ d ∈ ds, 0 ≤ d ∧ d < z) (hd : 0 ≤ d ∧ d < z) : ∀ e ∈ ds ++ [d], 0 ≤ e ∧ e < z := fun e he => by
  rcases List.mem_append.mp he with q | q
  · exact h e q
  · rw [List.mem_singleton.mp q]
    exact hd
theorem snoc_map (ds : List Int) (d : Int) : ds.map V.int ++ [V.int d] = (ds ++ [d]).map V.int := by
  rw [List.map_append]
  rfl
theorem ok_draws {f : Addr} {fd : FuncData} (F : Fun K "_law_draws" "_law_draws" sDraws f fd) (T : Txt mg) : FnOk P w K mg base CX0 1 f fd ["_law_cell_here", "_law_count", "_law_size"] spDraws := by
  refine F.ok scDraws (fun vs H Q E h => ?_) (fun cdv A outer s H vs Q E hr h => ?_)
  · obtain ⟨c, m, z, rfl, _⟩ := h
    rfl
  · obtain ⟨c, m, z, rfl, hm, ⟨hz, hz2⟩, q⟩ := h
    refine ⟨_, pss_cons (ps_set (i := 3) scDraws.nd rfl (.inl rfl) (pe_lst pa_nil))
      (pss_cons (ps_set (i := 4) scDraws.nd rfl (.inl rfl) (pe_callB call_abs (by rfl) T.abs (by decide +kernel) (pa_cons (pv 0) pa_nil)))
      (pss_cons (ps_if (pt_cmpR op_ge (pv 4) pe_int (nomark _))
        (pss_cons (ps_for PassesOwn.never rfl (pi_range1 (by rfl) T.range (pa_cons (pv 1) pa_nil)) (pg_name (i := 5) scDraws.nd rfl (.inl rfl))
          (pss_cons (ps_expr (pe_bm PySem.F.plainAttrs_list PySem.F.slot_list_append PySem.F.type_list_append mt_append (pv 3) (pa_cons (pe_op op_mod (pe_callTy call_int1 (by rfl) T.int (by decide +kernel) (pa_cons (pv 4) pa_nil)) (pv 2)) pa_nil)))
          (pss_one (ps_set (i := 4) scDraws.nd rfl (.inl rfl) (pe_op op_fdiv (pv 4) (pv 2))))))
        (pss_one (ps_ret (pv 3)))) pss_nil)
      (pss_cons (ps_for PassesOwn.never rfl (pi_range1 (by rfl) T.range (pa_cons (pv 1) pa_nil)) (pg_name (i := 5) scDraws.nd rfl (.inl rfl))
        (pss_cons (ps_set (i := 4) scDraws.nd rfl (.inl rfl) (pe_op op_mod (pe_callTy call_int1 (by rfl) T.int (by decide +kernel) (pa_cons (pe_op op_add (pe_op op_add (pe_op op_mul (pv 4) pe_int) (pe_op op_mul (pv 5) pe_int)) pe_int) pa_nil)) pe_int))
        (pss_one (ps_expr (pe_bm PySem.F.plainAttrs_list PySem.F.slot_list_append PySem.F.type_list_append mt_append (pv 3) (pa_cons (pe_op op_mod (pe_op op_mod (pe_callTy call_int1 (by rfl) T.int (by decide +kernel) (pa_cons (pe_op op_add (pe_op op_mul (pv 4) pe_int) (pv 5)) pa_nil)) pe_int) (pv 2)) pa_nil))))))
      (pss_one (ps_ret (pv 3)))))), ?_⟩
    refine ⟨Nat.zero_le _, fun p np => ?_⟩
    have s1 : Same H (upd H p (.lst [])) := same_new (Same.refl H) np
    refine ⟨_, rfl, _, rfl, _, rfl, _, _, rfl, rfl, _, rfl, ?_⟩
    refine ite2d (fun _ => ?_) (fun _ => ?_)
    · refine ⟨_, rfl, (m : Int), rfl, by omega, by omega, for_range (lo := 0) (n := m)
        (fun i σ H' => ∃ (ds : List Int) (r : Int) (v5 : Option V), σ = [some (.int c), some (.int (m : Int)), some (.int z), some (.ref p), some (.int r), v5] ∧ Same H H' ∧ H' p = some (.lst (ds.map V.int)) ∧ ds.length = i ∧ ∀ d ∈ ds, 0 ≤ d ∧ d < z)
        ⟨[], _, none, rfl, s1, upd_same, rfl, fun _ hd => nomatch hd⟩ ?_ ?_⟩
      · rintro i σ H' hi ⟨ds, r, v5, rfl, sm, hp, hl, hd⟩
        refine ⟨_, rfl, .inl ⟨rfl, _, SqL.of hp⟩, _, rfl, .inl ⟨_, rfl, _, rfl, _, _, rfl, rfl, hz, p, _, _, rfl, rfl, hp, by rw [mlen, hl]; exact small_of (by omega), ?_⟩⟩
        rw [snoc_map]
        refine ⟨_, rfl, _, rfl, _, _, rfl, rfl, ⟨hz, by omega⟩, ?_⟩
        exact ⟨ds ++ [r % z], r / z, _, rfl, same_new sm np, upd_same, by rw [List.length_append, hl]; rfl, all_snoc hd (mod_in r hz)⟩
      · rintro σ H' ⟨ds, r, v5, rfl, sm, hp, hl, hd⟩
        exact ⟨_, rfl, q H' p ds sm np hp hl hd⟩
    · refine ⟨_, rfl, (m : Int), rfl, by omega, by omega, for_range (lo := 0) (n := m)
        (fun i σ H' => ∃ (ds : List Int) (r : Int) (v5 : Option V), σ = [some (.int c), some (.int (m : Int)), some (.int z), some (.ref p), some (.int r), v5] ∧ Same H H' ∧ H' p = some (.lst (ds.map V.int)) ∧ ds.length = i ∧ ∀ d ∈ ds, 0 ≤ d ∧ d < z)
        ⟨[], _, none, rfl, s1, upd_same, rfl, fun _ hd => nomatch hd⟩ ?_ ?_⟩
      · rintro i σ H' hi ⟨ds, r, v5, rfl, sm, hp, hl, hd⟩
        refine ⟨_, rfl, _, _, rfl, rfl, .inr ⟨by decide, by decide⟩, _, rfl, _, _, rfl, rfl, .inr ⟨by decide, by decide⟩, _, _, rfl, rfl, _, _, rfl, rfl, .inl ⟨_, rfl, _, _, rfl, rfl, (by show (0 : Int) < _; decide), ?_⟩⟩
        refine ⟨_, rfl, .inl ⟨rfl, _, SqL.of hp⟩, _, rfl, _, _, rfl, rfl, .inr ⟨by decide, by decide⟩, _, rfl, _, _, rfl, rfl, .inl ⟨_, rfl, _, _, rfl, rfl, (by show (0 : Int) < _; decide), _, rfl, _, _, rfl, rfl, hz, p, _, _, rfl, rfl, hp, by rw [mlen, hl]; exact small_of (by omega), ?_⟩⟩
        rw [snoc_map]
        exact ⟨ds ++ [_], _, _, rfl, same_new sm np, upd_same, by rw [List.length_append, hl]; rfl, all_snoc hd (mod_in _ hz)⟩
      · rintro σ H' ⟨ds, r, v5, rfl, sm, hp, hl, hd⟩
        exact ⟨_, rfl, q H' p ds sm np hp hl hd⟩
/-! ### _law_is_integer -/
def spIsInt : Sp := fun vs H Q _ => ∃ i : Int, vs = [.int i] ∧ Q (.bl true) H
theorem scIsInt : FnScope ["_law_actual"] ["_law_actual"] (defScope sIsInt) := ⟨rfl, rfl, rfl, by decide +kernel, rfl, by decide +kernel, by decide +kernel⟩
theorem ok_isInt {f : Addr} {fd : FuncData} (F : Fun K "_law_is_integer" "_law_is_integer" sIsInt f fd) (T : Txt mg) : FnOk P w K mg base CX0 1 f fd ["_law_actual"] spIsInt := by
  refine F.ok scIsInt (fun vs H Q E h => ?_) (fun cdv A outer s H vs Q E hr h => ?_)
  · obtain ⟨i, rfl, _⟩ := h
    rfl
  · obtain ⟨i, rfl, q⟩ := h
    refine ⟨_, pss_one (ps_ret (pe_and (pe_callB call_isi (by rfl) T.isi (by decide +kernel) (pa_cons (pv 0) (pa_cons (pe_bltn (v := .ty "int") (by rfl) T.int (by decide +kernel) rfl) pa_nil)))
      (pe_one (pe_not (pe_callB call_isi (by rfl) T.isi (by decide +kernel) (pa_cons (pv 0) (pa_cons (pe_bltn (v := .ty "bool") (by rfl) T.bool (by decide +kernel) rfl) pa_nil))))))), ?_⟩
    refine ⟨_, rfl, _, _, _, _, true, rfl, ClsV.ty "int", TyX.base (TyOf.int _), kit_ty (by decide +kernel), _, rfl, ?_⟩
    refine ⟨_, rfl, _, _, _, _, false, rfl, ClsV.ty "bool", TyX.base (TyOf.int _), kit_ty (by decide +kernel), _, rfl, ?_⟩
    exact q
/-! ### _law_weights -/
def spWeights : Sp := fun vs H Q _ => ∃ (c s : Int), vs = [.int c, .int s] ∧ ∀ (H' : Hp) (p : Addr) (ws : List Int), Same H H' → H p = none → H' p = some (.lst (ws.map V.int)) → Good ws → Q (.ref p) H'
theorem scWeights : FnScope ["_law_cell_here", "_law_shape", "_law_count", "_law_size", "_law_weights_here", "_law_weight"] ["_law_cell_here", "_law_shape"] (defScope sWeights) := ⟨rfl, rfl, rfl, by decide +kernel, rfl, by decide +kernel, by decide +kernel⟩
theorem size_ok {k : Nat} (h : k < 4) : 0 < at0 [4, 12, 100, 1000000001] k ∧ at0 [4, 12, 100, 1000000001] k ≤ 1000000001 := by
  match k, h with
  | 0, _ => decide
  | 1, _ => decide
  | 2, _ => decide
  | 3, _ => decide
theorem sum_nn {ds : List Int} (h : ∀ d ∈ ds, 0 ≤ d ∧ d ≤ 1000000000) : 0 ≤ ds.sum := by
  rw [sum_all]
  have q := sumTo_le (f := fun _ => 0) (g := at0 ds) (m := ds.length) fun j hj => (h _ (at0_mem hj)).1
  rw [sumTo_zero] at q
  exact q
theorem good_plain {ds : List Int} {m : Nat} (hl : ds.length = m) (h1 : 1 ≤ m) (h2 : m ≤ 40) (h : ∀ d ∈ ds, 0 ≤ d ∧ d ≤ 1000000000) (hs : ds.sum ≠ 0) : Good ds where
  ne := by omega
  few := by omega
  lo := fun d hd => (h d hd).1
  hi := fun d hd => (h d hd).2
  pos := by
    have q := sum_nn h
    omega
theorem good_set {ds : List Int} {m j : Nat} (hl : ds.length = m) (h1 : 1 ≤ m) (h2 : m ≤ 40) (hj : j < m) (h : ∀ d ∈ ds, 0 ≤ d ∧ d ≤ 1000000000) : Good (ds.set j 1) := by
  have h3 : ∀ d ∈ ds.set j 1, 0 ≤ d ∧ d ≤ 1000000000 := fun d hd => by
    rcases List.mem_or_eq_of_mem_set hd with q | q
    · exact h d q
    · rw [q]
      omega
  have hl2 : (ds.set j 1).length = m := by rw [List.length_set, hl]
  refine good_plain hl2 h1 h2 h3 ?_
  rw [sum_all]
  have q := sumTo_one (f := at0 (ds.set j 1)) (m := (ds.set j 1).length) (i := j) (fun i hi => (h3 _ (at0_mem hi)).1) (by omega)
  have e : at0 (ds.set j 1) j = 1 := by
    have e1 := at0_get (xs := ds.set j 1) (j := j) (by omega)
    rw [List.getElem?_set_self (by omega)] at e1
    exact (Option.some.inj e1).symm
  omega
theorem ok_weights {f fR : Addr} {fd fdR : FuncData} (F : Fun K "_law_weights" "_law_weights" sWeights f fd) (T : Txt mg) (CR : Cal K mg "_law_draws" sDraws ["_law_cell_here", "_law_count", "_law_size"] fR fdR) :
    FnOk P w K mg base CX0 2 f fd ["_law_cell_here", "_law_shape"] spWeights := by
  have GR : FnOk P w K mg base CX0 1 fR fdR ["_law_cell_here", "_law_count", "_law_size"] spDraws := ok_draws CR.F T
  refine F.ok scWeights (fun vs H Q E h => ?_) (fun cdv A outer s H vs Q E hr h => ?_)
  · obtain ⟨c, s, rfl, _⟩ := h
    rfl
  · obtain ⟨c, sh, rfl, q⟩ := h
    refine ⟨_, pss_cons (ps_set (i := 2) scWeights.nd rfl (.inl rfl) (pe_op op_add pe_int (pe_op op_mod (pe_callB call_abs (by rfl) T.abs (by decide +kernel) (pa_cons (pv 1) pa_nil)) pe_int)))
      (C8.pss_cut (ps_if (pt_cmpR op_eq (pe_op op_mod (pe_op op_fdiv (pe_callTy call_int1 (by rfl) T.int (by decide +kernel) (pa_cons (pv 1) pa_nil)) pe_int) pe_int) pe_int (nomark _)) (pss_one (ps_set (i := 2) scWeights.nd rfl (.inl rfl) pe_int)) pss_nil)
      (pss_cons (ps_set (i := 3) scWeights.nd rfl (.inl rfl) (pe_ix ix_list (pe_lst (pa_cons pe_int (pa_cons pe_int (pa_cons pe_int (pa_cons pe_int pa_nil))))) (pe_op op_mod (pe_op op_fdiv (pe_callTy call_int1 (by rfl) T.int (by decide +kernel) (pa_cons (pv 1) pa_nil)) pe_int) pe_int) (fun _ _ => rfl)))
      (pss_cons (ps_set (i := 4) scWeights.nd rfl (.inr rfl) (pe_call GR hr rfl CR.g CR.F.kp CR.b .nil pass0 (pa_cons (pv 0) (pa_cons (pv 2) (pa_cons (pv 3) pa_nil)))))
      (C8.pss_cut (ps_if (pt_cmpR op_eq (pe_op op_mod (pe_op op_fdiv (pe_callTy call_int1 (by rfl) T.int (by decide +kernel) (pa_cons (pv 1) pa_nil)) pe_int) pe_int) pe_int (nomark _))
        (pss_one (ps_set (i := 4) scWeights.nd rfl (.inr rfl) (pe_lc (own := [("_law_weight", 5)]) (g := gName 5) (tt := tYes) (te := tOp (rIxL K) (tVar 4) (tC (.int 0))) rfl scWeights.nd (pi_list (pv 4))
          (blkOk_by (N := ["_law_cell_here", "_law_shape", "_law_count", "_law_size", "_law_weights_here", "_law_weight"]) (sc := defScope sWeights) (by decide +kernel)) (fun _ _ _ _ _ => pg_name (i := 5) scWeights.nd rfl (Or.inl rfl)) (fun _ _ _ _ _ => pts_nil)
          (fun _ _ _ _ _ => pe_ix (r := rIxL K) ix_list (pv 4) pe_int (fun _ _ => rfl))))) pss_nil)
      (C8.pss_cut (ps_if (pt_cmpR op_eq (pe_callB (cr_sum rfl) (by rfl) T.sum boot_sum (pa_cons (pv 4) pa_nil)) pe_int (nomark _))
        (pss_one (ps_asg pe_int (pg_sub (pv 4) (pe_op op_mod (pe_op op_fdiv (pe_callTy call_int1 (by rfl) T.int (by decide +kernel) (pa_cons (pv 1) pa_nil)) pe_int) (pv 2)) set_list))) pss_nil)
      (pss_one (ps_ret (pv 4)))))))), ?_⟩
    refine ⟨_, rfl, _, rfl, _, _, rfl, rfl, (by show (0 : Int) < _; decide), _, _, rfl, rfl, ?_⟩
    -- how many
    refine ⟨fun σ H' => H' = H ∧ ∃ m : Nat, 1 ≤ m ∧ m ≤ 40 ∧ σ = [some (.int c), some (.int sh), some (.int (m : Int)), none, none, none], ?_, ?_⟩
    · refine ⟨_, rfl, .inl ⟨_, rfl, _, _, rfl, rfl, ⟨by decide, by decide⟩, _, _, rfl, rfl, (by show (0 : Int) < _; decide), rfl, _, rfl, ?_⟩⟩
      refine ite2d (fun _ => ?_) (fun _ => ?_)
      · exact ⟨rfl, 40, by decide, by decide, rfl⟩
      · have hmod := mod_in (if sh < 0 then -sh else sh) (z := 9) (by decide)
        have ec : ((1 + ((if sh < 0 then -sh else sh) % 9).toNat : Nat) : Int) = 1 + (if sh < 0 then -sh else sh) % 9 := by omega
        refine ⟨rfl, 1 + ((if sh < 0 then -sh else sh) % 9).toNat, by omega, by omega, ?_⟩
        rw [ec]
        rfl
    rintro σ H' ⟨rfl, m, m1, m2, rfl⟩
    -- how great
    have hk := mod_in (sh / 63) (z := 4) (by decide)
    have hk4 : (sh / 63 % 4).toNat < 4 := by omega
    obtain ⟨z0, z1⟩ := size_ok hk4
    refine ⟨by show 4 ≤ sizeLine; decide, fun p0 np0 => ?_⟩
    have s0 : Same H' (upd H' p0 (.lst [V.int 4, V.int 12, V.int 100, V.int 1000000001])) := same_new (Same.refl H') np0
    refine ⟨_, rfl, .inl ⟨_, rfl, _, _, rfl, rfl, ⟨by decide, by decide⟩, _, _, rfl, rfl, (by show (0 : Int) < _; decide), p0, _, _, _, rfl, rfl, SqL.of upd_same, ix_at (ps := [4, 12, 100, 1000000001]) (i := (sh / 63 % 4).toNat) (by omega) hk4, ?_⟩⟩
    -- the draws
    refine ⟨_, rfl, _, rfl, _, rfl, c, m, _, rfl, m2, ⟨z0, z1⟩, fun H1 p ds sm np hp hl hd => ?_⟩
    have hd2 : ∀ d ∈ ds, 0 ≤ d ∧ d ≤ 1000000000 := fun d hdd => by
      have := hd d hdd
      omega
    have np0' : H' p = none := by
      cases e : H' p with
      | none => rfl
      | some o =>
        have e2 := s0 p o e
        rw [np] at e2
        cases e2
    generalize at0 [4, 12, 100, 1000000001] (sh / 63 % 4).toNat = z at *
    have sm1 : Same H' H1 := s0.trans sm
    -- all alike
    refine ⟨fun σ H2 => ∃ (p : Addr) (ds : List Int), σ = [some (.int c), some (.int sh), some (.int (m : Int)), some (.int z), some (.ref p), none] ∧ Same H' H2 ∧ H' p = none ∧ H2 p = some (.lst (ds.map V.int)) ∧ ds.length = m ∧ (∀ d ∈ ds, 0 ≤ d ∧ d ≤ 1000000000), ?_, ?_⟩
    · refine ⟨_, rfl, .inl ⟨_, rfl, _, _, rfl, rfl, ⟨by decide, by decide⟩, _, _, rfl, rfl, (by show (0 : Int) < _; decide), rfl, _, rfl, ?_⟩⟩
      refine ite2d (fun _ => ?_) (fun _ => ?_)
      · refine ⟨_, rfl, p, rfl, ⟨_, SqL.of hp⟩, fun D nD => lc_list (K := K) (a := p) (xs := ds.map V.int) (fun i H2 => H2 = upd H1 D (.lst (List.replicate i (V.int (at0 ds 0))))) rfl (fun i H2 _ e => by rw [e]; exact SqL.of (by rw [upd_ne (ne_of_none hp nD)]; exact hp)) ?_ ?_⟩
        · rintro i x H2 hx rfl
          have hi := (int_of hx).1
          refine ⟨rfl, ?_⟩
          refine ⟨_, rfl, p, _, _, _, rfl, rfl, SqL.of (by rw [upd_ne (ne_of_none hp nD)]; exact hp), ix_at (i := 0) rfl (by omega), _, upd_same, by rw [List.length_replicate]; exact small_of (by omega), ?_⟩
          rw [upd_upd, rep_snoc]
        rintro H2 rfl
        refine ⟨D, List.replicate m (at0 ds 0), rfl, same_new sm1 (sm1.free nD), sm1.free nD, ?_, List.length_replicate, fun d hdd => ?_⟩
        · rw [upd_same, mlen, hl, List.map_replicate]
        · rw [List.eq_of_mem_replicate hdd]
          exact hd2 _ (at0_mem (by omega))
      · exact ⟨p, ds, rfl, sm1, np0', hp, hl, hd2⟩
    rintro σ H2 ⟨p, ds, rfl, sm2, np2, hp, hl, hd⟩
    -- not all nothing
    refine ⟨fun σ H3 => ∃ (ws : List Int), σ = [some (.int c), some (.int sh), some (.int (m : Int)), some (.int z), some (.ref p), none] ∧ Same H' H3 ∧ H3 p = some (.lst (ws.map V.int)) ∧ Good ws, ?_, ?_⟩
    · refine ⟨_, rfl, p, ds, rfl, SqL.of hp, rfl, _, rfl, ?_⟩
      refine ite2d (fun _ => ?_) (fun e => ?_)
      · have hj := mod_in (sh / 1260) (z := (m : Int)) (by omega)
        refine ⟨_, rfl, _, rfl, .inl ⟨_, rfl, _, _, rfl, rfl, ⟨by decide, by decide⟩, _, rfl, _, _, rfl, rfl, by show (0 : Int) < (m : Int); omega, p, _, _, (sh / 1260 % (m : Int)).toNat, rfl, rfl, hp, ixN_nat (by omega) (by rw [mlen]; omega), ?_⟩⟩
        rw [set_map]
        exact ⟨_, rfl, same_new sm2 np2, upd_same, good_set hl m1 m2 (by omega) hd⟩
      · exact ⟨ds, rfl, sm2, hp, good_plain hl m1 m2 hd fun z => e (by rw [z])⟩
    rintro σ H3 ⟨ws, rfl, sm3, hp3, g⟩
    exact ⟨_, rfl, q H3 p ws sm3 np2 hp3 g⟩
end
end K13

/-! The walk, part D: _law_next, _law_order, law. -/
namespace K13
open PySem PySem.Spec PyProof.Rows L2 Deal
/-! ### lists of ints as data -/
def ild (ns : List Int) : PyData := .list (ns.map PyData.int)
theorem dpAll {K : PySem.W.Frag} {H : Hp} : ∀ ns : List Int, DpAll K H (ns.map V.int) (ns.map PyData.int)
  | [] => .nil
  | n :: r => .cons (.int n) (dpAll r)
theorem dp_il {K : PySem.W.Frag} {H : Hp} {a : Addr} {ns : List Int} (h : SqL K H a (ns.map V.int)) : Dp K H (.ref a) (ild ns) := .lst h (dpAll ns)
theorem lay_il : ∀ ns : List Int, PyData.canLayAll0 (ns.map PyData.int) = true
  | [] => rfl
  | n :: r => by
    show (PyData.canLay0 (.int n) && PyData.canLayAll0 (r.map PyData.int)) = true
    rw [lay_il r]
    rfl
theorem deep_il : ∀ ns : List Int, PyData.depthAll (ns.map PyData.int) = 0
  | [] => rfl
  | n :: r => by
    show max (PyData.depth (.int n)) (PyData.depthAll (r.map PyData.int)) = 0
    rw [deep_il r]
    rfl
theorem shaped_il (ns : List Int) : SeqAt.shaped (ild ns) = true := by
  have h1 : (ild ns).canLay0 = true := lay_il ns
  have h2 : (ild ns).depth = 1 := by
    show PyData.depthAll (ns.map PyData.int) + 1 = 1
    rw [deep_il]
  unfold SeqAt.shaped
  rw [h1, h2]
  rfl
theorem eqvAll_il : ∀ ns : List Int, PyData.eqvAll (ns.map PyData.int) (ns.map PyData.int) = true
  | [] => rfl
  | n :: r => by
    show (PyData.eqv (.int n) (.int n) && PyData.eqvAll (r.map PyData.int) (r.map PyData.int)) = true
    rw [eqvAll_il r]
    show ((n == n) && true) = true
    rw [beq_self_eq_true]
    rfl
theorem eqv_il (ns : List Int) : PyData.eqv (ild ns) (ild ns) = true := eqvAll_il ns
theorem cut_first (xs : List V) (k : Nat) : cutV xs none (some (k : Int)) = xs.take k := by
  unfold cutV
  rw [HT.sIx_none, HT.sIx_nat, List.drop_zero, Nat.sub_zero]
  by_cases h : k ≤ xs.length
  · rw [Nat.min_eq_left h]
  · rw [Nat.min_eq_right (by omega), List.take_length, List.take_of_length_le (by omega)]
section
variable {P : Program} {w : World} {K : PySem.W.Frag} {mg : Str → Option Value} {base : Heap}
/-! ### _law_next -/
theorem scLNext : FnScope ["_law_count", "_law_parts", "_law_weights_here", "_law_total", "_law_chosen", "_law_due", "_law_index", "_law_last"] ["_law_count", "_law_parts", "_law_weights_here", "_law_total"] (defScope sLNext) := ⟨rfl, rfl, rfl, by decide +kernel, rfl, by decide +kernel, by decide +kernel⟩
theorem ok_lnext {f : Addr} {fd : FuncData} (F : Fun K "_law_next" "_law_next" sLNext f fd) (T : Txt mg) : FnOk P w K mg base CX0 1 f fd ["_law_count", "_law_parts", "_law_weights_here", "_law_total"] (spNext K) := by
  refine F.ok scLNext (fun vs H Q E h => ?_) (fun cdv A outer s H vs Q E hr h => ?_)
  · obtain ⟨c, T, a, b, ps, ws, rfl, _⟩ := h
    rfl
  · obtain ⟨c, tot, a, b, ps, ws, rfl, hA, hB, ft, q⟩ := h
    refine ⟨_, pss_cons (ps_set (i := 4) scLNext.nd rfl (.inl rfl) pe_non) (pss_cons (ps_set (i := 5) scLNext.nd rfl (.inl rfl) pe_int)
      (pss_cons (ps_for PassesOwn.never rfl (pi_range1 (by rfl) T.range (pa_cons (pe_callB call_len_seq (by rfl) T.len PySem.boot_len (pa_cons (pv 2) pa_nil)) pa_nil)) (pg_name (i := 6) scLNext.nd rfl (.inl rfl))
        (pss_one (ps_if (pt_cmpR op_lt (pe_op op_mul (pe_ix ix_list (pv 1) (pv 6) (fun _ _ => rfl)) (pv 3)) (pe_op op_mul (pv 0) (pe_ix ix_list (pv 2) (pv 6) (fun _ _ => rfl))) (nomark _))
          (pss_cons (ps_set (i := 7) scLNext.nd rfl (.inl rfl) (pe_op op_add (pe_op op_fdiv (pe_op op_sub (pe_op op_mul (pe_op op_add (pe_ix ix_list (pv 1) (pv 6) (fun _ _ => rfl)) pe_int) (pv 3)) pe_int) (pe_ix ix_list (pv 2) (pv 6) (fun _ _ => rfl))) pe_int))
            (pss_one (ps_if (PW.pt (pw_or (pt_cmpR op_isN (pv 4) pe_non (nomark _)) (pw_or1 (pt_cmpR op_lt (pv 7) (pv 5) (nomark _)))))
              (pss_cons (ps_set (i := 4) scLNext.nd rfl (.inl rfl) (pv 6)) (pss_one (ps_set (i := 5) scLNext.nd rfl (.inl rfl) (pv 7)))) pss_nil)))
          pss_nil)))
      (pss_one (ps_ret (pv 4))))), ?_⟩
    have f1 := ft.few
    refine ⟨_, rfl, b, _, rfl, .inl hB, _, rfl, by omega, by rw [mlen]; omega, for_range (lo := 0) (n := (ws.map V.int).length)
      (fun i σ H' => H' = H ∧ ∃ v6 v7, σ = [some (.int c), some (.ref a), some (.ref b), some (.int tot), some (pickV (scan c tot (at0 ps) (at0 ws) i)), some (.int (dueI (scan c tot (at0 ps) (at0 ws) i))), v6, v7]) ⟨rfl, none, none, rfl⟩ ?_ ?_⟩
    · rintro i σ H' hi ⟨rfl, v6, v7, rfl⟩
      rw [mlen] at hi
      have hl := ft.len
      have p0 := ft.p0 i hi
      have p1 := ft.p1 i hi
      have w0 := ft.w0 i hi
      have w1 := ft.w1 i hi
      have c0 := ft.c0
      have c1 := ft.c1
      have e0 : (0 : Int) + (i : Int) = (i : Int) := by omega
      have ixA : atI (ps.map V.int) (0 + (i : Int)) = some (V.int (at0 ps i)) := ix_at e0 (by omega)
      have ixB : atI (ws.map V.int) (0 + (i : Int)) = some (V.int (at0 ws i)) := ix_at e0 hi
      refine ⟨_, rfl, _, rfl, a, _, _, _, rfl, rfl, hA, ixA, _, rfl, _, _, rfl, rfl, .inl ⟨by omega, by omega⟩, _, rfl, _, rfl, _, rfl, b, _, _, _, rfl, rfl, hB, ixB, _, _, rfl, rfl, .inl ⟨by omega, by omega⟩, _, _, rfl, rfl, _, rfl, ?_⟩
      refine ite2d (fun el => ?_) (fun el => ?_)
      · have wp := el_pos p0 ft.T0 w0 el
        refine ⟨_, rfl, _, rfl, a, _, _, _, rfl, rfl, hA, ixA, _, _, rfl, rfl, _, rfl, _, _, rfl, rfl, .inl ⟨by omega, by omega⟩, _, _, rfl, rfl, _, rfl, _, rfl, b, _, _, _, rfl, rfl, hB, ixB, _, _, rfl, rfl, ⟨wp, by omega⟩, _, _, rfl, rfl, ?_⟩
        have ed := due_law (p := at0 ps i) (T := tot) wp
        cases es : scan c tot (at0 ps) (at0 ws) i with
        | none =>
          refine ⟨_, rfl, rfl, _, rfl, ?_⟩
          refine iteP rfl (iteT ?_)
          refine ⟨_, rfl, _, rfl, rfl, some (.int (0 + (i : Int))), some (.int (((at0 ps i + 1) * tot - 1) / at0 ws i + 1)), ?_⟩
          have e1 : scan c tot (at0 ps) (at0 ws) (i + 1) = some (i, due (at0 ps i) (at0 ws i) tot) := by
            show Deal.step c tot (at0 ps) (at0 ws) (scan c tot (at0 ps) (at0 ws) i) i = _
            rw [es]
            unfold Deal.step
            rw [if_pos el]
          rw [e1, e0, ← ed]
          rfl
        | some z =>
          obtain ⟨j, d⟩ := z
          refine ⟨_, rfl, rfl, _, rfl, ?_⟩
          refine iteN (fun z => by cases z) ?_
          refine ⟨_, rfl, _, rfl, _, _, rfl, rfl, _, rfl, ?_⟩
          refine ite2d (fun lt => ?_) (fun lt => ?_)
          · refine ⟨_, rfl, _, rfl, rfl, some (.int (0 + (i : Int))), some (.int (((at0 ps i + 1) * tot - 1) / at0 ws i + 1)), ?_⟩
            have e1 : scan c tot (at0 ps) (at0 ws) (i + 1) = some (i, due (at0 ps i) (at0 ws i) tot) := by
              show Deal.step c tot (at0 ps) (at0 ws) (scan c tot (at0 ps) (at0 ws) i) i = _
              rw [es]
              unfold Deal.step
              rw [if_pos el]
              exact if_pos (by rw [← ed]; exact lt)
            rw [e1, e0, ← ed]
            rfl
          · refine ⟨rfl, some (.int (0 + (i : Int))), some (.int (((at0 ps i + 1) * tot - 1) / at0 ws i + 1)), ?_⟩
            have e1 : scan c tot (at0 ps) (at0 ws) (i + 1) = some (j, d) := by
              show Deal.step c tot (at0 ps) (at0 ws) (scan c tot (at0 ps) (at0 ws) i) i = _
              rw [es]
              unfold Deal.step
              rw [if_pos el]
              exact if_neg (by rw [← ed]; exact lt)
            rw [e1]
            rfl
      · refine ⟨rfl, some (.int (0 + (i : Int))), v7, ?_⟩
        have e1 : scan c tot (at0 ps) (at0 ws) (i + 1) = scan c tot (at0 ps) (at0 ws) i := by
          show Deal.step c tot (at0 ps) (at0 ws) (scan c tot (at0 ps) (at0 ws) i) i = _
          unfold Deal.step
          rw [if_neg el]
        rw [e1]
        rfl
    · rintro σ H' ⟨rfl, v6, v7, rfl⟩
      rw [mlen]
      exact ⟨_, rfl, q⟩
/-! ### _law_order -/
def spLOrder (K : PySem.W.Frag) : Sp := fun vs H Q _ => ∃ (n : Nat) (o a : Addr) (ws : List Int), vs = [.ref o, .int (n : Int), .ref a] ∧ n ≤ 9999 ∧ H o = some (.lst ((order ws n).map V.int)) ∧ SqL K H a (ws.map V.int) ∧ Good ws ∧
  ∀ H' p, Same H H' → H p = none → H' p = some (.lst ((parts ws n).map V.int)) → Q (.ref p) H'
theorem order_at0 {ws : List Int} {n i : Nat} (h : i < n) : at0 (order ws n) i = ((ix ws i : Nat) : Int) := by
  have e1 := order_get (ws := ws) h
  rw [at0_get (by rw [order_len]; exact h)] at e1
  exact Option.some.inj e1
theorem scLOrder : FnScope ["_law_order_here", "_law_amount", "_law_weights_here", "_law_total", "_law_parts", "_law_k", "_law_index", "_law_weight"] ["_law_order_here", "_law_amount", "_law_weights_here"] (defScope sLOrder) := ⟨rfl, rfl, rfl, by decide +kernel, rfl, by decide +kernel, by decide +kernel⟩
theorem ok_lorder {f fI fN : Addr} {fd fdI fdN : FuncData} (F : Fun K "_law_order" "_law_order" sLOrder f fd) (T : Txt mg) (CI : Cal K mg "_law_is_integer" sIsInt ["_law_actual"] fI fdI)
    (CN : Cal K mg "_law_next" sLNext ["_law_count", "_law_parts", "_law_weights_here", "_law_total"] fN fdN) : FnOk P w K mg base CX0 2 f fd ["_law_order_here", "_law_amount", "_law_weights_here"] (spLOrder K) := by
  have GI : FnOk P w K mg base CX0 1 fI fdI ["_law_actual"] spIsInt := ok_isInt CI.F T
  have GN : FnOk P w K mg base CX0 1 fN fdN ["_law_count", "_law_parts", "_law_weights_here", "_law_total"] (spNext K) := ok_lnext CN.F T
  refine F.ok scLOrder (fun vs H Q E h => ?_) (fun cdv A outer s H vs Q E hr h => ?_)
  · obtain ⟨n, o, a, ws, rfl, _⟩ := h
    rfl
  · obtain ⟨n, o, a, ws, rfl, hn, hO, hS, g, q⟩ := h
    refine ⟨_, pss_cons (ps_if (PW.pt (pw_or (pt_not (pt_val (pe_callB call_isi (by rfl) T.isi (by decide +kernel) (pa_cons (pv 0) (pa_cons (pe_bltn (v := .ty "list") (by rfl) T.list (by decide +kernel) rfl) pa_nil)))))
        (pw_or1 (pt_cmpR op_ne (pe_callB call_len_seq (by rfl) T.len PySem.boot_len (pa_cons (pv 0) pa_nil)) (pv 1) (nomark _))))) pss_never pss_nil)
      (pss_cons (ps_set (i := 3) scLOrder.nd rfl (.inl rfl) (pe_callB (cr_sum rfl) (by rfl) T.sum boot_sum (pa_cons (pv 2) pa_nil)))
      (pss_cons (ps_setLc (i := 4) (own := [("_law_weight", 7)]) (g := gName 7) (tt := tYes) rfl scLOrder.nd rfl rfl (sw_true rfl rfl rfl (by decide +kernel)) (pi_list (pv 2))
        (blkOk_by (N := ["_law_order_here", "_law_amount", "_law_weights_here", "_law_total", "_law_parts", "_law_k", "_law_index", "_law_weight"]) (sc := defScope sLOrder) (by decide +kernel)) (fun _ _ _ _ _ => pg_name (i := 7) scLOrder.nd rfl (Or.inl rfl)) (fun _ _ _ _ _ => pts_nil) (fun _ _ _ _ _ => pe_int))
      (pss_cons (ps_for PassesOwn.never rfl (pi_range1 (by rfl) T.range (pa_cons (pv 1) pa_nil)) (pg_name (i := 5) scLOrder.nd rfl (.inl rfl))
        (pss_cons (ps_if (PW.pt (pw_or (pt_not (pt_val (pe_call GI hr rfl CI.g CI.F.kp CI.b .nil pass0 (pa_cons (pe_ix ix_list (pv 0) (pv 5) (fun _ _ => rfl)) pa_nil))))
          (pw_or1 (pt_not (pt_chain op_le op_lt pe_int (pe_ix ix_list (pv 0) (pv 5) (fun _ _ => rfl)) (pe_callB call_len_seq (by rfl) T.len PySem.boot_len (pa_cons (pv 2) pa_nil))))))) pss_never pss_nil)
        (pss_cons (ps_if (pt_cmpR op_ne (pe_ix ix_list (pv 0) (pv 5) (fun _ _ => rfl)) (pe_call GN hr rfl CN.g CN.F.kp CN.b .nil pass0 (pa_cons (pe_op op_add (pv 5) pe_int) (pa_cons (pv 4) (pa_cons (pv 2) (pa_cons (pv 3) pa_nil))))) (nomark _)) pss_never pss_nil)
        (pss_cons (ps_asg (pe_op op_add (pe_ix ix_list (pv 4) (pe_ix ix_list (pv 0) (pv 5) (fun _ _ => rfl)) (fun _ _ => rfl)) pe_int) (pg_sub (pv 4) (pe_ix ix_list (pv 0) (pv 5) (fun _ _ => rfl)) set_list))
        (pss_one (ps_for PassesOwn.never rfl (pi_range1 (by rfl) T.range (pa_cons (pe_callB call_len_seq (by rfl) T.len PySem.boot_len (pa_cons (pv 2) pa_nil)) pa_nil)) (pg_name (i := 6) scLOrder.nd rfl (.inl rfl))
          (pss_one (ps_if (pt_cmpR op_ge (pe_callB call_abs (by rfl) T.abs (by decide +kernel) (pa_cons (pe_op op_sub (pe_op op_mul (pe_ix ix_list (pv 4) (pv 6) (fun _ _ => rfl)) (pv 3)) (pe_op op_mul (pe_op op_add (pv 5) pe_int) (pe_ix ix_list (pv 2) (pv 6) (fun _ _ => rfl)))) pa_nil)) (pv 3) (nomark _)) pss_never pss_nil))))))))
      (pss_one (ps_ret (pv 4)))))), ?_⟩
    -- the list, its length
    refine ⟨_, rfl, _, _, _, _, true, rfl, ClsV.ty "list", TyX.base (TyOf.lst hO), kit_ty (by decide +kernel), _, rfl, ?_⟩
    refine ⟨_, rfl, o, _, rfl, .inl (SqL.of hO), _, rfl, rfl, _, rfl, ?_⟩
    refine iteNS (by rw [mlen, order_len]) ?_
    -- the total
    refine ⟨_, rfl, a, ws, rfl, hS, ?_⟩
    -- the parts
    refine ⟨_, rfl, a, rfl, ⟨_, hS⟩, fun p np => lc_list (K := K) (a := a) (xs := ws.map V.int) (fun i H' => H' = upd H p (.lst (List.replicate i (V.int 0)))) rfl (fun i H' _ e => by rw [e]; exact (same_new (Same.refl H) np).seq hS) ?_ ?_⟩
    · rintro i x H' hx rfl
      have hi := (int_of hx).1
      have hf := g.few
      refine ⟨rfl, _, upd_same, by rw [List.length_replicate]; exact small_of (by omega), ?_⟩
      rw [upd_upd, rep_snoc]
    rintro H' rfl
    rw [parts_zero]
    have s1 : Same H (upd H p (.lst ((parts ws 0).map V.int))) := same_new (Same.refl H) np
    refine ⟨_, rfl, (n : Int), rfl, by omega, by omega, for_range (lo := 0) (n := n)
      (fun i σ H' => ∃ v5 v6, σ = [some (.ref o), some (.int (n : Int)), some (.ref a), some (.int ws.sum), some (.ref p), v5, v6, none] ∧ Same H H' ∧ H' p = some (.lst ((parts ws i).map V.int)))
      ⟨none, none, rfl, s1, upd_same⟩ ?_ ?_⟩
    · rintro i σ H' hi ⟨v5, v6, rfl, sm, hp⟩
      have hlt := ix_lt g i
      have hpl := parts_len ws i
      obtain ⟨d, hsc⟩ := parts_scan g i
      have hO' := sm _ _ hO
      have e0 : (0 : Int) + (i : Int) = (i : Int) := by omega
      have ixO : atI ((order ws n).map V.int) (0 + (i : Int)) = some (V.int ((ix ws i : Nat) : Int)) := by
        rw [← order_at0 hi]
        exact ix_at e0 (by rw [order_len]; exact hi)
      -- an int, an index
      refine ⟨_, rfl, _, rfl, o, _, _, _, rfl, rfl, SqL.of hO', ixO, _, rfl, _, rfl, ?_⟩
      refine ⟨_, rfl, _, rfl, o, _, _, _, rfl, rfl, SqL.of hO', ixO, _, _, rfl, rfl, _, rfl, ?_⟩
      refine iteP (by omega) ?_
      refine ⟨_, rfl, a, _, rfl, .inl (sm.seq hS), _, _, rfl, rfl, _, rfl, ?_⟩
      refine iteNS (by rw [mlen]; omega) ?_
      -- the choice
      refine ⟨_, rfl, _, rfl, o, _, _, _, rfl, rfl, SqL.of hO', ixO, _, rfl, _, _, rfl, rfl, _, rfl, _, rfl, _, rfl, (0 : Int) + (i : Int) + 1, ws.sum, p, a, parts ws i, ws, rfl, SqL.of hp, sm.seq hS, by rw [e0]; exact Fit.of g (by omega), ?_⟩
      rw [e0, hsc]
      refine ⟨rfl, _, rfl, ?_⟩
      refine iteNS rfl ?_
      -- one more
      rw [← e0]
      refine ⟨_, rfl, _, rfl, _, rfl, o, _, _, _, rfl, rfl, SqL.of hO', ixO, p, _, _, _, rfl, rfl, SqL.of hp, ix_at rfl (by omega), _, _, rfl, rfl, _, rfl, _, rfl, _, rfl, o, _, _, _, rfl, rfl, SqL.of hO', ixO, p, _, _, ix ws i, rfl, rfl, hp, ixN_nat rfl (by rw [mlen]; omega), ?_⟩
      rw [set_map]
      have sm2 : Same H (upd H' p (.lst (((parts ws i).set (ix ws i) (at0 (parts ws i) (ix ws i) + 1)).map V.int))) := same_new sm np
      have hS2 := sm2.seq hS
      have hp2 : upd H' p (.lst (((parts ws i).set (ix ws i) (at0 (parts ws i) (ix ws i) + 1)).map V.int)) p = some (.lst ((parts ws (i + 1)).map V.int)) := by
        rw [upd_same]
        rfl
      generalize upd H' p (.lst (((parts ws i).set (ix ws i) (at0 (parts ws i) (ix ws i) + 1)).map V.int)) = H2 at sm2 hS2 hp2 ⊢
      have hf := g.few
      refine ⟨_, rfl, a, _, rfl, .inl hS2, _, rfl, by omega, by rw [mlen]; omega, for_range (lo := 0) (n := (ws.map V.int).length)
        (fun j σ H3 => H3 = H2 ∧ ∃ v6, σ = [some (.ref o), some (.int (n : Int)), some (.ref a), some (.int ws.sum), some (.ref p), some (.int (0 + (i : Int))), v6, none]) ⟨rfl, _, rfl⟩ ?_ ?_⟩
      · rintro j σ H3 hj ⟨rfl, v6, rfl⟩
        rw [mlen] at hj
        have ej : (0 : Int) + (j : Int) = (j : Int) := by omega
        have q0 := parts_lo g (i + 1) hj
        have q1 := parts_hi g (i + 1) hj
        have q2 := parts_len ws (i + 1)
        have wi := within g (i + 1) hj
        refine ⟨_, rfl, _, rfl, p, _, _, _, rfl, rfl, SqL.of hp2, ix_at ej (by omega), _, rfl, _, _, rfl, rfl, .inl ⟨by omega, by omega⟩, _, rfl, _, _, rfl, rfl, _, rfl, _, rfl, a, _, _, _, rfl, rfl, hS2, ix_at ej hj, _, _, rfl, rfl, .inl ⟨by omega, by omega⟩, _, _, rfl, rfl, _, rfl, _, rfl, _, _, rfl, rfl, _, rfl, ?_⟩
        have ec : ((i + 1 : Nat) : Int) = 0 + (i : Int) + 1 := by omega
        rw [ec] at wi
        refine iteN (fun z => ?_) ⟨rfl, _, rfl⟩
        exact absurd z (by
          have wi2 : (if at0 (parts ws (i + 1)) j * ws.sum - (0 + (i : Int) + 1) * at0 ws j < 0 then -(at0 (parts ws (i + 1)) j * ws.sum - (0 + (i : Int) + 1) * at0 ws j) else at0 (parts ws (i + 1)) j * ws.sum - (0 + (i : Int) + 1) * at0 ws j) < ws.sum := wi
          omega)
      · rintro σ H3 ⟨rfl, v6, rfl⟩
        exact ⟨_, _, rfl, sm2, hp2⟩
    · rintro σ H' ⟨v5, v6, rfl, sm, hp⟩
      exact ⟨_, rfl, q H' p sm np hp⟩
end
end K13

/-! The walk, part E: the law, what the top has left, the end. -/
namespace K13
open PySem PySem.Spec PyProof.Rows L2 Deal
section
variable {P : Program} {w : World} {K : PySem.W.Frag} {mg : Str → Option Value} {base : Heap}
def spLaw (K : PySem.W.Frag) : Sp := fun vs H Q _ => ∃ (a : Addr) (ns : List Int), vs = [.ref a] ∧ SqL K H a (ns.map V.int) ∧ ∀ H', Q (.bl true) H'
theorem scLaw : FnScope ["_law_script", "_law_weights_here", "_law_amount", "_law_kept", "_law_order_here", "_law_parts", "_law_dealt", "_law_fewer"] ["_law_script"] (defScope sLaw) := ⟨rfl, rfl, rfl, by decide +kernel, rfl, by decide +kernel, by decide +kernel⟩
theorem ok_law {f fL fW fR fO fC fN fU fQ fI fM fD : Addr} {fd fdL fdW fdR fdO fdC fdN fdU fdQ fdI fdM fdD : FuncData} (F : Fun K "law" "law" sLaw f fd) (T : Txt mg)
    (CL : Cal K mg "_law_cell" sCell ["_law_script", "_law_k"] fL fdL) (CW : Cal K mg "_law_weights" sWeights ["_law_cell_here", "_law_shape"] fW fdW) (CR : Cal K mg "_law_draws" sDraws ["_law_cell_here", "_law_count", "_law_size"] fR fdR)
    (CO : Cal K mg "deal_order" sOrder ["amount", "weights"] fO fdO) (CC : Cal K mg "check_weights" sCheck ["amount", "weights"] fC fdC) (CN : Cal K mg "next_turn" sNext ["count", "parts", "weights", "total"] fN fdN) (CU : Cal K mg "due_count" sDue ["part", "weight", "total"] fU fdU)
    (CQ : Cal K mg "_law_order" sLOrder ["_law_order_here", "_law_amount", "_law_weights_here"] fQ fdQ) (CI : Cal K mg "_law_is_integer" sIsInt ["_law_actual"] fI fdI) (CM : Cal K mg "_law_next" sLNext ["_law_count", "_law_parts", "_law_weights_here", "_law_total"] fM fdM)
    (CD : Cal K mg "deal" sDeal ["amount", "weights"] fD fdD) : FnOk P w K mg base CX0 5 f fd ["_law_script"] (spLaw K) := by
  have GL : FnOk P w K mg base CX0 1 fL fdL ["_law_script", "_law_k"] (spCellK K) := ok_cell CL.F T
  have GW : FnOk P w K mg base CX0 2 fW fdW ["_law_cell_here", "_law_shape"] spWeights := ok_weights CW.F T CR
  have GO : FnOk P w K mg base CX0 3 fO fdO ["amount", "weights"] (spOrder K) := ok_order CO.F T CC CN CU
  have GQ : FnOk P w K mg base CX0 2 fQ fdQ ["_law_order_here", "_law_amount", "_law_weights_here"] (spLOrder K) := ok_lorder CQ.F T CI CM
  have GD : FnOk P w K mg base CX0 4 fD fdD ["amount", "weights"] (spDeal K) := ok_deal CD.F T CO GO
  refine F.ok scLaw (fun vs H Q E h => ?_) (fun cdv A outer s H vs Q E hr h => ?_)
  · obtain ⟨a, ns, rfl, _⟩ := h
    rfl
  · obtain ⟨a, ns, rfl, hS, q⟩ := h
    have hr1 : Room 1 _ := hr.mono (by decide)
    have hr2 : Room 2 _ := hr.mono (by decide)
    have hr3 : Room 3 _ := hr.mono (by decide)
    refine ⟨_, pss_cons (ps_set (i := 1) scLaw.nd rfl (.inl rfl) (pe_call GW hr2 rfl CW.g CW.F.kp CW.b .nil pass0 (pa_cons (pe_call GL hr1 rfl CL.g CL.F.kp CL.b .nil pass0 (pa_cons (pv 0) (pa_cons pe_int pa_nil))) (pa_cons (pe_call GL hr1 rfl CL.g CL.F.kp CL.b .nil pass0 (pa_cons (pv 0) (pa_cons pe_int pa_nil))) pa_nil))))
      (pss_cons (ps_set (i := 2) scLaw.nd rfl (.inl rfl) (pe_op op_mod (pe_call GL hr1 rfl CL.g CL.F.kp CL.b .nil pass0 (pa_cons (pv 0) (pa_cons pe_int pa_nil))) pe_int))
      (C8.pss_cut (ps_if (PW.pt (pw_and (pt_cmpR op_eq (pe_op op_mod (pe_call GL hr1 rfl CL.g CL.F.kp CL.b .nil pass0 (pa_cons (pv 0) (pa_cons pe_int pa_nil))) pe_int) pe_int (nomark _))
          (pw_and1 (pt_cmpR op_lt (pe_callB call_len_seq (by rfl) T.len PySem.boot_len (pa_cons (pv 1) pa_nil)) pe_int (nomark _)))))
        (pss_one (ps_set (i := 2) scLaw.nd rfl (.inl rfl) (pe_op op_mod (pe_call GL hr1 rfl CL.g CL.F.kp CL.b .nil pass0 (pa_cons (pv 0) (pa_cons pe_int pa_nil))) pe_int))) pss_nil)
      (pss_cons (ps_set (i := 3) scLaw.nd rfl (.inl rfl) (pe_callTy call_list_of (by rfl) T.list (by decide +kernel) (pa_cons (pv 1) pa_nil)))
      (pss_cons (ps_set (i := 4) scLaw.nd rfl (.inl rfl) (pe_call GO hr3 rfl CO.g CO.F.kp CO.b .nil pass0 (pa_cons (pv 2) (pa_cons (pv 1) pa_nil))))
      (pss_cons (ps_if (pt_cmpR (op_neD hr.units) (pv 1) (pv 3) (nomark _)) pss_never pss_nil)
      (pss_cons (ps_set (i := 5) scLaw.nd rfl (.inl rfl) (pe_call GQ hr2 rfl CQ.g CQ.F.kp CQ.b .nil pass0 (pa_cons (pv 4) (pa_cons (pv 2) (pa_cons (pv 3) pa_nil)))))
      (pss_cons (ps_if (pt_cmpR op_isN (pv 5) pe_non (nomark _)) pss_never pss_nil)
      (pss_cons (ps_set (i := 6) scLaw.nd rfl (.inl rfl) (pe_call GD hr rfl CD.g CD.F.kp CD.b .nil pass0 (pa_cons (pv 2) (pa_cons (pv 1) pa_nil))))
      (pss_cons (ps_if (PW.pt (pw_or (pt_not (pt_val (pe_callB call_isi (by rfl) T.isi (by decide +kernel) (pa_cons (pv 6) (pa_cons (pe_bltn (v := .ty "list") (by rfl) T.list (by decide +kernel) rfl) pa_nil)))))
          (pw_or (pt_cmpR (op_neD hr.units) (pv 6) (pv 5) (nomark _)) (pw_or1 (pt_cmpR (op_neD hr.units) (pv 1) (pv 3) (nomark _)))))) pss_never pss_nil)
      (pss_cons (ps_set (i := 7) scLaw.nd rfl (.inl rfl) (pe_op op_mod (pe_call GL hr1 rfl CL.g CL.F.kp CL.b .nil pass0 (pa_cons (pv 0) (pa_cons pe_int pa_nil))) (pe_op op_add (pv 2) pe_int)))
      (pss_one (ps_ret (pe_cmpR (op_eqD hr.units) (pe_call GO hr3 rfl CO.g CO.F.kp CO.b .nil pass0 (pa_cons (pv 7) (pa_cons (pe_callTy call_list_of (by rfl) T.list (by decide +kernel) (pa_cons (pv 3) pa_nil)) pa_nil))) (pe_slice sl_list (pv 4) po_none (po_some (pv 7))) (nomark _)))))))))))))), ?_⟩
    -- the weights
    refine ⟨_, rfl, a, ns, 1, rfl, hS, fun c1 => ?_⟩
    refine ⟨_, rfl, a, ns, 0, rfl, hS, fun c0 => ?_⟩
    refine ⟨c1, c0, rfl, fun H1 p ws sm1 np hp g => ?_⟩
    have hS1 := sm1.seq hS
    -- the amount
    refine ⟨_, rfl, a, ns, 2, rfl, hS1, fun c2 => ⟨_, _, rfl, rfl, (by show (0 : Int) < _; decide), ?_⟩⟩
    have m2 := mod_in c2 (z := 251) (by decide)
    refine ⟨fun σ H' => H' = H1 ∧ ∃ n : Nat, n ≤ 9999 ∧ σ = [some (.ref a), some (.ref p), some (.int (n : Int)), none, none, none, none, none], ?_, ?_⟩
    · refine ⟨_, rfl, a, ns, 3, rfl, hS1, fun c3 => ⟨_, _, rfl, rfl, (by show (0 : Int) < _; decide), rfl, _, rfl, ?_⟩⟩
      have e2 : ((c2 % 251).toNat : Int) = c2 % 251 := by omega
      have out : H1 = H1 ∧ ∃ n : Nat, n ≤ 9999 ∧ ([some (V.ref a), some (.ref p), some (.int (c2 % 251)), none, none, none, none, none] : L2.St) = [some (.ref a), some (.ref p), some (.int (n : Int)), none, none, none, none, none] :=
        ⟨rfl, (c2 % 251).toNat, by omega, by rw [e2]⟩
      refine ite2d (fun _ => ?_) (fun _ => iteF out)
      refine ⟨_, rfl, p, _, rfl, .inl (SqL.of hp), _, _, rfl, rfl, _, rfl, ?_⟩
      refine ite2d (fun _ => ?_) (fun _ => out)
      refine ⟨_, rfl, a, ns, 2, rfl, hS1, fun d2 => ⟨_, _, rfl, rfl, (by show (0 : Int) < _; decide), ?_⟩⟩
      have m3 := mod_in d2 (z := 10000) (by decide)
      have e3 : ((d2 % 10000).toNat : Int) = d2 % 10000 := by omega
      exact ⟨rfl, (d2 % 10000).toNat, by omega, by rw [e3]; rfl⟩
    rintro σ H' ⟨rfl, n, hn, rfl⟩
    -- kept
    refine ⟨_, rfl, p, _, rfl, .inl (SqL.of hp), fun k nk => ?_⟩
    have s2 : Same H' (upd H' k (.lst (ws.map V.int))) := same_new (Same.refl H') nk
    -- the order
    refine ⟨_, rfl, _, rfl, n, p, ws, rfl, hn, s2.seq (SqL.of hp), g, fun H3 o sm3 no ho => ?_⟩
    have hp3 : H3 p = some (.lst (ws.map V.int)) := sm3 _ _ (s2 _ _ hp)
    have hk3 : H3 k = some (.lst (ws.map V.int)) := sm3 _ _ upd_same
    have hS3 : SqL K H3 a (ns.map V.int) := sm3.seq (s2.seq hS1)
    refine ⟨_, rfl, _, rfl, ild ws, ild ws, dp_il (SqL.of hp3), dp_il (SqL.of hk3), shaped_il ws, shaped_il ws, _, rfl, ?_⟩
    rw [eqv_il]
    refine iteF ?_
    -- the parts
    refine ⟨_, rfl, _, rfl, _, rfl, n, o, k, ws, rfl, hn, ho, SqL.of hk3, g, fun H4 r sm4 nr hr4 => ?_⟩
    have hp4 := sm4 _ _ hp3
    have hk4 := sm4 _ _ hk3
    have ho4 := sm4 _ _ ho
    refine ⟨_, rfl, rfl, _, rfl, ?_⟩
    refine iteN (fun z => by cases z) ?_
    -- dealt
    refine ⟨_, rfl, _, rfl, n, p, ws, rfl, hn, SqL.of hp4, g, fun H5 t sm5 nt ht => ?_⟩
    have hp5 := sm5 _ _ hp4
    have hk5 := sm5 _ _ hk4
    have ho5 := sm5 _ _ ho4
    have hr5 := sm5 _ _ hr4
    have hS5 : SqL K H5 a (ns.map V.int) := sm5.seq (sm4.seq hS3)
    refine ⟨_, rfl, _, _, _, _, true, rfl, ClsV.ty "list", TyX.base (TyOf.lst ht), kit_ty (by decide +kernel), _, rfl, ?_⟩
    refine ⟨_, rfl, _, rfl, ild (parts ws n), ild (parts ws n), dp_il (SqL.of ht), dp_il (SqL.of hr5), shaped_il _, shaped_il _, _, rfl, ?_⟩
    rw [eqv_il]
    refine iteF ?_
    refine ⟨_, rfl, _, rfl, ild ws, ild ws, dp_il (SqL.of hp5), dp_il (SqL.of hk5), shaped_il _, shaped_il _, _, rfl, ?_⟩
    rw [eqv_il]
    refine iteF ?_
    -- fewer
    refine ⟨_, rfl, a, ns, 4, rfl, hS5, fun c4 => ⟨_, rfl, _, _, rfl, rfl, _, _, rfl, rfl, (by show (0 : Int) < (n : Int) + 1; omega), ?_⟩⟩
    have m4 := mod_in c4 (z := (n : Int) + 1) (by omega)
    obtain ⟨j, hj⟩ : ∃ j : Nat, c4 % ((n : Int) + 1) = (j : Int) := ⟨(c4 % ((n : Int) + 1)).toNat, by omega⟩
    rw [hj] at m4
    have jn : j ≤ n := by omega
    refine ⟨_, rfl, _, rfl, k, _, rfl, .inl (SqL.of hk5), fun k2 nk2 => ?_⟩
    have s6 : Same H5 (upd H5 k2 (.lst (ws.map V.int))) := same_new (Same.refl H5) nk2
    refine ⟨j, k2, ws, (by show [V.int (c4 % ((n : Int) + 1)), V.ref k2] = _; rw [hj]), by omega, SqL.of upd_same, g, fun H7 u sm7 nu hu => ?_⟩
    have ho7 := sm7 _ _ (s6 _ _ ho5)
    refine ⟨_, rfl, _, rfl, _, rfl, o, _, rfl, SqL.of ho7, fun v nv => ?_⟩
    have hu8 : upd H7 v (.lst (cutV ((order ws n).map V.int) none (some (c4 % ((n : Int) + 1))))) u = some (.lst ((order ws j).map V.int)) := by
      rw [upd_ne (ne_of_none hu nv)]
      exact hu
    have hv8 : upd H7 v (.lst (cutV ((order ws n).map V.int) none (some (c4 % ((n : Int) + 1))))) v = some (.lst ((order ws j).map V.int)) := by
      rw [upd_same, hj, cut_first, ← List.map_take, order_take jn]
    refine ⟨ild (order ws j), ild (order ws j), dp_il (SqL.of hu8), dp_il (SqL.of hv8), shaped_il _, shaped_il _, ?_⟩
    rw [eqv_il]
    exact q _
end
/-! ### what the top has left, the end -/

theorem all_mk {l : PySem.W.OpenLaw} {w : World} {K : PySem.W.Frag} {h : Heap} {mg : Str → Option Value} {fa : Addr} (X : K.In h) (G : h.Ns mainGlobals mg) (hfa : mg "law" = some (.ref fa))
    {fC : Addr} {odC anC : Option Addr} {slC : Array (Option Value)} {ocC kVC dcC pmC cdC ctC : Value}
    (aC : PySem.W.nsIn K mainGlobals "check_weights" = some (some (.ref fC))) (lC : K.lookup fC = some ⟨ocC, odC, .func (PySem.W.fnOf "check_weights" "check_weights" (defArgs sCheck) (defBody sCheck) (defScope sCheck) .none kVC dcC pmC anC cdC ctC), slC⟩) (cC : PySem.W.codeIn K cdC "check_weights" = true) (kC : PySem.W.keepIn K (.ref fC) = true)
    {fU : Addr} {odU anU : Option Addr} {slU : Array (Option Value)} {ocU kVU dcU pmU cdU ctU : Value}
    (aU : PySem.W.nsIn K mainGlobals "due_count" = some (some (.ref fU))) (lU : K.lookup fU = some ⟨ocU, odU, .func (PySem.W.fnOf "due_count" "due_count" (defArgs sDue) (defBody sDue) (defScope sDue) .none kVU dcU pmU anU cdU ctU), slU⟩) (cU : PySem.W.codeIn K cdU "due_count" = true) (kU : PySem.W.keepIn K (.ref fU) = true)
    {fN : Addr} {odN anN : Option Addr} {slN : Array (Option Value)} {ocN kVN dcN pmN cdN ctN : Value}
    (aN : PySem.W.nsIn K mainGlobals "next_turn" = some (some (.ref fN))) (lN : K.lookup fN = some ⟨ocN, odN, .func (PySem.W.fnOf "next_turn" "next_turn" (defArgs sNext) (defBody sNext) (defScope sNext) .none kVN dcN pmN anN cdN ctN), slN⟩) (cN : PySem.W.codeIn K cdN "next_turn" = true) (kN : PySem.W.keepIn K (.ref fN) = true)
    {fO : Addr} {odO anO : Option Addr} {slO : Array (Option Value)} {ocO kVO dcO pmO cdO ctO : Value}
    (aO : PySem.W.nsIn K mainGlobals "deal_order" = some (some (.ref fO))) (lO : K.lookup fO = some ⟨ocO, odO, .func (PySem.W.fnOf "deal_order" "deal_order" (defArgs sOrder) (defBody sOrder) (defScope sOrder) .none kVO dcO pmO anO cdO ctO), slO⟩) (cO : PySem.W.codeIn K cdO "deal_order" = true) (kO : PySem.W.keepIn K (.ref fO) = true)
    {fD : Addr} {odD anD : Option Addr} {slD : Array (Option Value)} {ocD kVD dcD pmD cdD ctD : Value}
    (aD : PySem.W.nsIn K mainGlobals "deal" = some (some (.ref fD))) (lD : K.lookup fD = some ⟨ocD, odD, .func (PySem.W.fnOf "deal" "deal" (defArgs sDeal) (defBody sDeal) (defScope sDeal) .none kVD dcD pmD anD cdD ctD), slD⟩) (cD : PySem.W.codeIn K cdD "deal" = true) (kD : PySem.W.keepIn K (.ref fD) = true)
    {fL : Addr} {odL anL : Option Addr} {slL : Array (Option Value)} {ocL kVL dcL pmL cdL ctL : Value}
    (aL : PySem.W.nsIn K mainGlobals "_law_cell" = some (some (.ref fL))) (lL : K.lookup fL = some ⟨ocL, odL, .func (PySem.W.fnOf "_law_cell" "_law_cell" (defArgs sCell) (defBody sCell) (defScope sCell) .none kVL dcL pmL anL cdL ctL), slL⟩) (cL : PySem.W.codeIn K cdL "_law_cell" = true) (kL : PySem.W.keepIn K (.ref fL) = true)
    {fR : Addr} {odR anR : Option Addr} {slR : Array (Option Value)} {ocR kVR dcR pmR cdR ctR : Value}
    (aR : PySem.W.nsIn K mainGlobals "_law_draws" = some (some (.ref fR))) (lR : K.lookup fR = some ⟨ocR, odR, .func (PySem.W.fnOf "_law_draws" "_law_draws" (defArgs sDraws) (defBody sDraws) (defScope sDraws) .none kVR dcR pmR anR cdR ctR), slR⟩) (cR : PySem.W.codeIn K cdR "_law_draws" = true) (kR : PySem.W.keepIn K (.ref fR) = true)
    {fI : Addr} {odI anI : Option Addr} {slI : Array (Option Value)} {ocI kVI dcI pmI cdI ctI : Value}
    (aI : PySem.W.nsIn K mainGlobals "_law_is_integer" = some (some (.ref fI))) (lI : K.lookup fI = some ⟨ocI, odI, .func (PySem.W.fnOf "_law_is_integer" "_law_is_integer" (defArgs sIsInt) (defBody sIsInt) (defScope sIsInt) .none kVI dcI pmI anI cdI ctI), slI⟩) (cI : PySem.W.codeIn K cdI "_law_is_integer" = true) (kI : PySem.W.keepIn K (.ref fI) = true)
    {fW : Addr} {odW anW : Option Addr} {slW : Array (Option Value)} {ocW kVW dcW pmW cdW ctW : Value}
    (aW : PySem.W.nsIn K mainGlobals "_law_weights" = some (some (.ref fW))) (lW : K.lookup fW = some ⟨ocW, odW, .func (PySem.W.fnOf "_law_weights" "_law_weights" (defArgs sWeights) (defBody sWeights) (defScope sWeights) .none kVW dcW pmW anW cdW ctW), slW⟩) (cW : PySem.W.codeIn K cdW "_law_weights" = true) (kW : PySem.W.keepIn K (.ref fW) = true)
    {fM : Addr} {odM anM : Option Addr} {slM : Array (Option Value)} {ocM kVM dcM pmM cdM ctM : Value}
    (aM : PySem.W.nsIn K mainGlobals "_law_next" = some (some (.ref fM))) (lM : K.lookup fM = some ⟨ocM, odM, .func (PySem.W.fnOf "_law_next" "_law_next" (defArgs sLNext) (defBody sLNext) (defScope sLNext) .none kVM dcM pmM anM cdM ctM), slM⟩) (cM : PySem.W.codeIn K cdM "_law_next" = true) (kM : PySem.W.keepIn K (.ref fM) = true)
    {fQ : Addr} {odQ anQ : Option Addr} {slQ : Array (Option Value)} {ocQ kVQ dcQ pmQ cdQ ctQ : Value}
    (aQ : PySem.W.nsIn K mainGlobals "_law_order" = some (some (.ref fQ))) (lQ : K.lookup fQ = some ⟨ocQ, odQ, .func (PySem.W.fnOf "_law_order" "_law_order" (defArgs sLOrder) (defBody sLOrder) (defScope sLOrder) .none kVQ dcQ pmQ anQ cdQ ctQ), slQ⟩) (cQ : PySem.W.codeIn K cdQ "_law_order" = true) (kQ : PySem.W.keepIn K (.ref fQ) = true)
    {fZ : Addr} {odZ anZ : Option Addr} {slZ : Array (Option Value)} {ocZ kVZ dcZ pmZ cdZ ctZ : Value}
    (aZ : PySem.W.nsIn K mainGlobals "law" = some (some (.ref fZ))) (lZ : K.lookup fZ = some ⟨ocZ, odZ, .func (PySem.W.fnOf "law" "law" (defArgs sLaw) (defBody sLaw) (defScope sLaw) .none kVZ dcZ pmZ anZ cdZ ctZ), slZ⟩) (cZ : PySem.W.codeIn K cdZ "law" = true) (kZ : PySem.W.keepIn K (.ref fZ) = true)
    {t0 : Tok} (kon0 : PySem.W.nsIn K mainGlobals "MOST_WEIGHTS" = some (some (.int 40 t0)))
    {t1 : Tok} (kon1 : PySem.W.nsIn K mainGlobals "LARGEST_WEIGHT" = some (some (.int 1000000000000000 t1)))
    {t2 : Tok} (kon2 : PySem.W.nsIn K mainGlobals "LARGEST_DEAL" = some (some (.int 9999 t2)))
    (blt0 : PySem.W.nsIn K mainGlobals "len" = some none)
    (blt1 : PySem.W.nsIn K mainGlobals "sum" = some none)
    (blt2 : PySem.W.nsIn K mainGlobals "range" = some none)
    (blt3 : PySem.W.nsIn K mainGlobals "abs" = some none)
    (blt4 : PySem.W.nsIn K mainGlobals "int" = some none)
    (blt5 : PySem.W.nsIn K mainGlobals "list" = some none)
    (blt6 : PySem.W.nsIn K mainGlobals "isinstance" = some none)
    (blt7 : PySem.W.nsIn K mainGlobals "bool" = some none) :
    ∃ fd : FuncData, (∀ (s : Shared) (v : Value), BindsTo s fd ⟨[v], []⟩ [("_law_script", v)]) ∧ ∀ base : Heap, K.In base → base.Ns mainGlobals mg → FnOk l.prog w K mg base CX0 5 fa fd ["_law_script"] (spLaw K) := by
  have e := hfa.symm.trans (PySem.W.mg_of X G aZ)
  cases e
  have T : Txt mg := ⟨PySem.W.mg_none_of X G blt0, PySem.W.mg_none_of X G blt1, PySem.W.mg_none_of X G blt2, PySem.W.mg_none_of X G blt3, PySem.W.mg_none_of X G blt4, PySem.W.mg_none_of X G blt5, PySem.W.mg_none_of X G blt6, PySem.W.mg_none_of X G blt7, ⟨_, PySem.W.mg_of X G kon0⟩, ⟨_, PySem.W.mg_of X G kon1⟩, ⟨_, PySem.W.mg_of X G kon2⟩⟩
  have FC := fun_mk (st := sCheck) lC cC kC
  have bC := FC.binds (ps := ["amount", "weights"]) fun _ _ _ _ _ _ us hl => match us, hl with | [_, _], _ => rfl
  have CC : Cal K mg "check_weights" sCheck ["amount", "weights"] fC _ := ⟨FC, PySem.W.mg_of X G aC, bC⟩
  have FU := fun_mk (st := sDue) lU cU kU
  have bU := FU.binds (ps := ["part", "weight", "total"]) fun _ _ _ _ _ _ us hl => match us, hl with | [_, _, _], _ => rfl
  have CU : Cal K mg "due_count" sDue ["part", "weight", "total"] fU _ := ⟨FU, PySem.W.mg_of X G aU, bU⟩
  have FN := fun_mk (st := sNext) lN cN kN
  have bN := FN.binds (ps := ["count", "parts", "weights", "total"]) fun _ _ _ _ _ _ us hl => match us, hl with | [_, _, _, _], _ => rfl
  have CN : Cal K mg "next_turn" sNext ["count", "parts", "weights", "total"] fN _ := ⟨FN, PySem.W.mg_of X G aN, bN⟩
  have FO := fun_mk (st := sOrder) lO cO kO
  have bO := FO.binds (ps := ["amount", "weights"]) fun _ _ _ _ _ _ us hl => match us, hl with | [_, _], _ => rfl
  have CO : Cal K mg "deal_order" sOrder ["amount", "weights"] fO _ := ⟨FO, PySem.W.mg_of X G aO, bO⟩
  have FD := fun_mk (st := sDeal) lD cD kD
  have bD := FD.binds (ps := ["amount", "weights"]) fun _ _ _ _ _ _ us hl => match us, hl with | [_, _], _ => rfl
  have CD : Cal K mg "deal" sDeal ["amount", "weights"] fD _ := ⟨FD, PySem.W.mg_of X G aD, bD⟩
  have FL := fun_mk (st := sCell) lL cL kL
  have bL := FL.binds (ps := ["_law_script", "_law_k"]) fun _ _ _ _ _ _ us hl => match us, hl with | [_, _], _ => rfl
  have CL : Cal K mg "_law_cell" sCell ["_law_script", "_law_k"] fL _ := ⟨FL, PySem.W.mg_of X G aL, bL⟩
  have FR := fun_mk (st := sDraws) lR cR kR
  have bR := FR.binds (ps := ["_law_cell_here", "_law_count", "_law_size"]) fun _ _ _ _ _ _ us hl => match us, hl with | [_, _, _], _ => rfl
  have CR : Cal K mg "_law_draws" sDraws ["_law_cell_here", "_law_count", "_law_size"] fR _ := ⟨FR, PySem.W.mg_of X G aR, bR⟩
  have FI := fun_mk (st := sIsInt) lI cI kI
  have bI := FI.binds (ps := ["_law_actual"]) fun _ _ _ _ _ _ us hl => match us, hl with | [_], _ => rfl
  have CI : Cal K mg "_law_is_integer" sIsInt ["_law_actual"] fI _ := ⟨FI, PySem.W.mg_of X G aI, bI⟩
  have FW := fun_mk (st := sWeights) lW cW kW
  have bW := FW.binds (ps := ["_law_cell_here", "_law_shape"]) fun _ _ _ _ _ _ us hl => match us, hl with | [_, _], _ => rfl
  have CW : Cal K mg "_law_weights" sWeights ["_law_cell_here", "_law_shape"] fW _ := ⟨FW, PySem.W.mg_of X G aW, bW⟩
  have FM := fun_mk (st := sLNext) lM cM kM
  have bM := FM.binds (ps := ["_law_count", "_law_parts", "_law_weights_here", "_law_total"]) fun _ _ _ _ _ _ us hl => match us, hl with | [_, _, _, _], _ => rfl
  have CM : Cal K mg "_law_next" sLNext ["_law_count", "_law_parts", "_law_weights_here", "_law_total"] fM _ := ⟨FM, PySem.W.mg_of X G aM, bM⟩
  have FQ := fun_mk (st := sLOrder) lQ cQ kQ
  have bQ := FQ.binds (ps := ["_law_order_here", "_law_amount", "_law_weights_here"]) fun _ _ _ _ _ _ us hl => match us, hl with | [_, _, _], _ => rfl
  have CQ : Cal K mg "_law_order" sLOrder ["_law_order_here", "_law_amount", "_law_weights_here"] fQ _ := ⟨FQ, PySem.W.mg_of X G aQ, bQ⟩
  exact ⟨PySem.W.fnOf "law" "law" (defArgs sLaw) (defBody sLaw) (defScope sLaw) .none kVZ dcZ pmZ anZ cdZ ctZ, fun s v => .of_eq rfl, fun base _ _ =>
    ok_law (fun_mk (st := sLaw) lZ cZ kZ) T CL CW CR CO CC CN CU CQ CI CM CD⟩
theorem walk {l : PySem.W.OpenLaw} {q : Program} {loose : List Str} {XP : (Str → Option Value) → Heap → Prop} {YP : World → Heap → Prop} {d : DefRec} {K : Params → PySem.W.Frag} (hn : l.most = some 63) (hdf : d.params.defaults = [])
    (hY : ∀ (w : World) (h : Heap), YP w h → (K w.params).In h)
    (F : ∀ (w : World) (mg : Str → Option Value) (fa : Addr) (h : Heap), (K w.params).In h → h.Ns mainGlobals mg → mg d.name = some (.ref fa) →
      ∃ fd : FuncData, (∀ (s : Shared) (u : Value), BindsTo s fd ⟨[u], []⟩ [("_law_script", u)]) ∧ ∀ base : Heap, (K w.params).In base → base.Ns mainGlobals mg → FnOk l.prog w (K w.params) mg base CX0 5 fa fd ["_law_script"] (spLaw (K w.params))) :
    PySem.W.WalkO q loose XP YP l.row.toRowW d [] (fun f vs => PySem.call f vs) :=
  L2.walk_of (n := 63) (k := 5) (x := "_law_script") (CX := fun _ => CX0) (sp := fun w => spLaw (K w.params)) hn (by decide) hdf ⟨rfl, by decide, by decide⟩ hY F (fun _ _ a ns hl _ hS => ⟨a, ns, rfl, hS, fun _ => rfl⟩) fun _ _ _ _ _ z => z
end K13

open PySem PySem.W PyProof.Rows in
set_option maxRecDepth 100000 in
set_option maxHeartbeats 0 in
theorem PySem.Challenge.cw_fairbourse_k13_deal_whole_within_a_cent_holds : PySem.Challenge.rw_fairbourse_k13_deal_whole_within_a_cent.Holds := by
  w_on; o_law; k_head; (case hw => w_witness2)
  k_fill
  refine K13.walk (l := PySem.Challenge.rw_fairbourse_k13_deal_whole_within_a_cent) rfl rfl (fun w h Y => PySem.W.kIn_of Y) ?F
  case F =>
    intro w mg fa h KX G hmg
    refine' K13.all_mk KX G hmg ?aC ?lC ?cC ?kC ?aU ?lU ?cU ?kU ?aN ?lN ?cN ?kN ?aO ?lO ?cO ?kO ?aD ?lD ?cD ?kD ?aL ?lL ?cL ?kL ?aR ?lR ?cR ?kR ?aI ?lI ?cI ?kI ?aW ?lW ?cW ?kW ?aM ?lM ?cM ?kM ?aQ ?lQ ?cQ ?kQ ?aZ ?lZ ?cZ ?kZ ?kon0 ?kon1 ?kon2 ?blt0 ?blt1 ?blt2 ?blt3 ?blt4 ?blt5 ?blt6 ?blt7
    (case aC => k_is)
    (case lC => k_is)
    (case cC => k_is)
    (case kC => k_is)
    (case aU => k_is)
    (case lU => k_is)
    (case cU => k_is)
    (case kU => k_is)
    (case aN => k_is)
    (case lN => k_is)
    (case cN => k_is)
    (case kN => k_is)
    (case aO => k_is)
    (case lO => k_is)
    (case cO => k_is)
    (case kO => k_is)
    (case aD => k_is)
    (case lD => k_is)
    (case cD => k_is)
    (case kD => k_is)
    (case aL => k_is)
    (case lL => k_is)
    (case cL => k_is)
    (case kL => k_is)
    (case aR => k_is)
    (case lR => k_is)
    (case cR => k_is)
    (case kR => k_is)
    (case aI => k_is)
    (case lI => k_is)
    (case cI => k_is)
    (case kI => k_is)
    (case aW => k_is)
    (case lW => k_is)
    (case cW => k_is)
    (case kW => k_is)
    (case aM => k_is)
    (case lM => k_is)
    (case cM => k_is)
    (case kM => k_is)
    (case aQ => k_is)
    (case lQ => k_is)
    (case cQ => k_is)
    (case kQ => k_is)
    (case aZ => k_is)
    (case lZ => k_is)
    (case cZ => k_is)
    (case kZ => k_is)
    (case kon0 => k_is)
    (case kon1 => k_is)
    (case kon2 => k_is)
    (case blt0 => k_is)
    (case blt1 => k_is)
    (case blt2 => k_is)
    (case blt3 => k_is)
    (case blt4 => k_is)
    (case blt5 => k_is)
    (case blt6 => k_is)
    (case blt7 => k_is)
