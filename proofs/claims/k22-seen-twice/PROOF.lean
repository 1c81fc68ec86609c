import PyProof.Rows.All
import Wide.All
import OpenK.AllK
import Wide.FinOn
import HandS.ForMost
import HandS.Flow
import HandS.IsInst
import HandS.Zip
import HandS.SortInts
import HandS.Conv
import HandS.EndBits
import PySem.Challenge.RW_bothwheels_k22_whole_seen_twice_is_seen
section
set_option autoImplicit false
namespace K22
/-! the mathematics: wheels, places, seen on seen; no program here -/

/-- an item by an int place (0 beyond) -/
def ga (w : List Int) (i : Int) : Int := w.getD i.toNat 0

/-- how many of p are at most r -/
def cnt (p : List Int) (r : Int) : Nat := (p.filter (fun o => decide (o ≤ r))).length
/-- the number of the last of places that is not above z -/
def ahd (p : List Int) (n : Int) (z : Int) : Int := z / n * (p.length : Int) + (cnt p (z % n) : Int) - 1
/-- number j of places told on -/
def tel (p : List Int) (n : Int) (j : Int) : Int := ga p (j % (p.length : Int)) + j / (p.length : Int) * n
/-- where w leads z -/
def led (w : List Int) (z : Int) : Int := ga w (z % (w.length : Int)) + z / (w.length : Int) * (w.length : Int)

structure IsW (w : List Int) : Prop where
  pos : 0 < w.length
  mono : ∀ i j : Nat, i ≤ j → j < w.length → w.getD i 0 ≤ w.getD j 0
  turn : w.getD (w.length - 1) 0 ≤ w.getD 0 0 + (w.length : Int)

structure IsP (p : List Int) (n : Int) : Prop where
  pos : 0 < p.length
  asc : ∀ i j : Nat, i < j → j < p.length → p.getD i 0 < p.getD j 0
  low : ∀ i : Nat, i < p.length → 0 ≤ p.getD i 0
  top : ∀ i : Nat, i < p.length → p.getD i 0 < n

theorem IsP.npos {p : List Int} {n : Int} (h : IsP p n) : 0 < n := by
  have a := h.low 0 h.pos
  have b := h.top 0 h.pos
  omega

theorem cnt_le (p : List Int) (r : Int) : cnt p r ≤ p.length := List.length_filter_le _ _
theorem cnt_cons (a : Int) (p : List Int) (r : Int) : cnt (a :: p) r = (if a ≤ r then 1 else 0) + cnt p r := by
  unfold cnt
  rw [List.filter_cons]
  by_cases h : a ≤ r
  · simp [h]; omega
  · simp [h]
/-- ascending: the i-th is at most r exactly if i is below the count -/
theorem cnt_iff : ∀ (p : List Int) (r : Int), (∀ i j : Nat, i < j → j < p.length → p.getD i 0 < p.getD j 0) → ∀ i : Nat, i < p.length → (i < cnt p r ↔ p.getD i 0 ≤ r)
  | [], r, _, i, hi => absurd hi (Nat.not_lt_zero _)
  | a :: p, r, ha, i, hi => by
    have ha' : ∀ i j : Nat, i < j → j < p.length → p.getD i 0 < p.getD j 0 := fun i j h1 h2 => by
      have := ha (i + 1) (j + 1) (by omega) (by simp; omega)
      simpa using this
    rw [cnt_cons]
    have all0 : ∀ q : List Int, (∀ k : Nat, k < q.length → r < q.getD k 0) → cnt q r = 0 := by
      intro q
      induction q with
      | nil => intro _; rfl
      | cons b q ih =>
        intro hq
        rw [cnt_cons, ih (fun k hk => by have := hq (k + 1) (by simp; omega); simpa using this)]
        have := hq 0 (by simp)
        simp at this
        rw [if_neg (by omega)]
    cases i with
    | zero =>
      simp only [List.getD_cons_zero]
      by_cases h : a ≤ r
      · simp [h]; omega
      · have h0 : cnt p r = 0 := all0 p fun k hk => by
          have := ha 0 (k + 1) (by omega) (by simp; omega)
          simp only [List.getD_cons_zero, List.getD_cons_succ] at this
          omega
        simp [h, h0]
    | succ k =>
      simp only [List.getD_cons_succ]
      have hk : k < p.length := by simpa using hi
      have ih := cnt_iff p r ha' k hk
      have h0 := ha 0 (k + 1) (by omega) (by simpa using hi)
      simp only [List.getD_cons_zero, List.getD_cons_succ] at h0
      by_cases h : a ≤ r
      · rw [if_pos h]
        constructor
        · intro q; exact ih.mp (by omega)
        · intro q; have := ih.mpr q; omega
      · rw [if_neg h]
        have h1 : ¬ p.getD k 0 ≤ r := by omega
        constructor
        · intro q; exact absurd (ih.mp (by omega)) h1
        · intro q; exact absurd q h1

/-- THE WORD: ahd is the greatest number told at most z -/
theorem gc {p : List Int} {n : Int} (h : IsP p n) (z j : Int) : j ≤ ahd p n z ↔ tel p n j ≤ z := by
  have hn := h.npos
  have hu : (0 : Int) < (p.length : Int) := by have := h.pos; omega
  have ej := Int.mul_ediv_add_emod j (p.length : Int)
  have i0 := Int.emod_nonneg j (Int.ne_of_gt hu)
  have i1 := Int.emod_lt_of_pos j hu
  have ez := Int.mul_ediv_add_emod z n
  have r0 := Int.emod_nonneg z (Int.ne_of_gt hn)
  have r1 := Int.emod_lt_of_pos z hn
  unfold ahd tel ga
  generalize hq : j / (p.length : Int) = q at *
  generalize hi : j % (p.length : Int) = i at *
  generalize hQ : z / n = Q at *
  generalize hr : z % n = r at *
  have hi' : i.toNat < p.length := by omega
  have ci := cnt_iff p r h.asc i.toNat hi'
  have cl := cnt_le p r
  have pl := h.low i.toNat hi'
  have pt := h.top i.toNat hi'
  have ei : ((i.toNat : Nat) : Int) = i := by omega
  generalize hp : p.getD i.toNat 0 = v at *
  generalize hc : cnt p r = c at *
  generalize hL : (p.length : Int) = u at *
  have cl' : (c : Int) ≤ u := by omega
  rcases Int.lt_trichotomy q Q with hlt | heq | hgt
  · have a1 : u * (q + 1) ≤ u * Q := Int.mul_le_mul_of_nonneg_left (by omega) (by omega)
    have a2 : n * (q + 1) ≤ n * Q := Int.mul_le_mul_of_nonneg_left (by omega) (by omega)
    rw [Int.mul_add] at a1 a2
    have c1 := Int.mul_comm Q u
    have c2 := Int.mul_comm q n
    constructor
    · intro _; omega
    · intro _; omega
  · subst heq
    have c1 := Int.mul_comm q u
    have c2 := Int.mul_comm q n
    constructor
    · intro g
      have : i.toNat < c := by omega
      have := ci.mp this
      omega
    · intro g
      have : v ≤ r := by omega
      have := ci.mpr this
      omega
  · have a1 : u * (Q + 1) ≤ u * q := Int.mul_le_mul_of_nonneg_left (by omega) (by omega)
    have a2 : n * (Q + 1) ≤ n * q := Int.mul_le_mul_of_nonneg_left (by omega) (by omega)
    rw [Int.mul_add] at a1 a2
    have c1 := Int.mul_comm Q u
    have c2 := Int.mul_comm q n
    constructor
    · intro g; omega
    · intro g; omega

theorem eq_of_le_iff {a b : Int} (h : ∀ j : Int, j ≤ a ↔ j ≤ b) : a = b := by
  have h1 := (h a).mp (Int.le_refl _)
  have h2 := (h b).mpr (Int.le_refl _)
  omega
theorem ahd_mono {p : List Int} {n : Int} (h : IsP p n) {y z : Int} (hyz : y ≤ z) : ahd p n y ≤ ahd p n z := by
  have a := (gc h y (ahd p n y)).mp (Int.le_refl _)
  exact (gc h z (ahd p n y)).mpr (by omega)
theorem tel_shift {p : List Int} {n : Int} (h : 0 < p.length) (j k : Int) : tel p n (j + k * (p.length : Int)) = tel p n j + k * n := by
  unfold tel
  rw [Int.add_mul_emod_self_right, Int.add_mul_ediv_right _ _ (by omega), Int.add_mul]
  omega
theorem ahd_shift {p : List Int} {n : Int} (hn : n ≠ 0) (z k : Int) : ahd p n (z + k * n) = ahd p n z + k * (p.length : Int) := by
  unfold ahd
  rw [Int.add_mul_emod_self_right, Int.add_mul_ediv_right _ _ hn, Int.add_mul]
  omega
theorem tel_ahd {p : List Int} {n : Int} (h : IsP p n) (z : Int) : tel p n (ahd p n z) ≤ z := (gc h z _).mp (Int.le_refl _)

theorem ga_nat (w : List Int) (i : Nat) : ga w (i : Int) = w.getD i 0 := by unfold ga; rfl
theorem getD_map {α : Type} {f : α → Int} {l : List α} {i : Nat} {d : α} (h : i < l.length) : (l.map f).getD i 0 = f (l.getD i d) := by
  rw [List.getD_eq_getElem?_getD, List.getD_eq_getElem?_getD, List.getElem?_map, List.getElem?_eq_getElem h] <;> rfl

/-! ### seen -/
def seeM (w p : List Int) : List Int := p.map fun o => ahd p (w.length : Int) (ga w o)
def strM (w p : List Int) : List Int := p.map fun o => ahd p (w.length : Int) (ga w o - 1)
theorem seeM_len (w p : List Int) : (seeM w p).length = p.length := List.length_map _
theorem strM_len (w p : List Int) : (strM w p).length = p.length := List.length_map _
theorem seeM_get {w p : List Int} {i : Nat} (h : i < p.length) : (seeM w p).getD i 0 = ahd p (w.length : Int) (ga w (p.getD i 0)) := getD_map (d := 0) h
theorem strM_get {w p : List Int} {i : Nat} (h : i < p.length) : (strM w p).getD i 0 = ahd p (w.length : Int) (ga w (p.getD i 0) - 1) := getD_map (d := 0) h

theorem wheel_of {w p : List Int} (hw : IsW w) (hp : IsP p (w.length : Int)) (d : Int) : IsW (p.map fun o => ahd p (w.length : Int) (ga w o - d)) := by
  have hl : (p.map fun o => ahd p (w.length : Int) (ga w o - d)).length = p.length := List.length_map _
  refine ⟨by rw [hl]; exact hp.pos, fun i j hij hj => ?_, ?_⟩
  · rw [hl] at hj
    rw [getD_map (d := 0) hj, getD_map (d := 0) (Nat.lt_of_le_of_lt hij hj)]
    refine ahd_mono hp ?_
    have h1 : p.getD i 0 ≤ p.getD j 0 := by
      rcases Nat.lt_or_eq_of_le hij with q | q
      · exact Int.le_of_lt (hp.asc i j q hj)
      · rw [q]; exact Int.le_refl _
    have h2 := hp.low i (Nat.lt_of_le_of_lt hij hj)
    have h3 := hp.top j hj
    have := hw.mono (p.getD i 0).toNat (p.getD j 0).toNat (by omega) (by omega)
    unfold ga
    omega
  · rw [hl]
    have hpos := hp.pos
    have hj : p.length - 1 < p.length := by omega
    rw [getD_map (d := 0) hj, getD_map (d := 0) hp.pos]
    have h2 := hp.low (p.length - 1) hj
    have h3 := hp.top (p.length - 1) hj
    have h4 := hp.low 0 hp.pos
    have h5 := hp.top 0 hp.pos
    have a := hw.mono (p.getD (p.length - 1) 0).toNat (w.length - 1) (by omega) (by have := hw.pos; omega)
    have b := hw.turn
    have c := hw.mono 0 (p.getD 0 0).toNat (by omega) (by omega)
    have hn : (w.length : Int) ≠ 0 := by have := hw.pos; omega
    have s := ahd_shift (p := p) hn (ga w (p.getD 0 0) - d) 1
    rw [Int.one_mul, Int.one_mul] at s
    rw [← s]
    refine ahd_mono hp ?_
    unfold ga
    omega
theorem seeM_wheel {w p : List Int} (hw : IsW w) (hp : IsP p (w.length : Int)) : IsW (seeM w p) := by
  have := wheel_of hw hp 0
  unfold seeM
  simpa using this
theorem strM_wheel {w p : List Int} (hw : IsW w) (hp : IsP p (w.length : Int)) : IsW (strM w p) := wheel_of hw hp 1

/-! ### places of places -/
def pick (p f : List Int) : List Int := f.map fun k => ga p k
theorem pick_len (p f : List Int) : (pick p f).length = f.length := List.length_map _
theorem pick_get {p f : List Int} {i : Nat} (h : i < f.length) : (pick p f).getD i 0 = ga p (f.getD i 0) := getD_map (d := 0) h
theorem pick_places {p f : List Int} {n : Int} (hp : IsP p n) (hf : IsP f (p.length : Int)) : IsP (pick p f) n := by
  refine ⟨by rw [pick_len]; exact hf.pos, fun i j hij hj => ?_, fun i hi => ?_, fun i hi => ?_⟩
  · rw [pick_len] at hj
    rw [pick_get hj, pick_get (Nat.lt_trans hij hj)]
    have a := hf.asc i j hij hj
    have b := hf.low i (Nat.lt_trans hij hj)
    have c := hf.top j hj
    exact hp.asc _ _ (by omega) (by omega)
  · rw [pick_len] at hi
    rw [pick_get hi]
    have b := hf.low i hi
    have c := hf.top i hi
    exact hp.low _ (by omega)
  · rw [pick_len] at hi
    rw [pick_get hi]
    have b := hf.low i hi
    have c := hf.top i hi
    exact hp.top _ (by omega)
theorem tel_tel {p f : List Int} {n : Int} (hp : IsP p n) (hf : IsP f (p.length : Int)) (j : Int) : tel p n (tel f (p.length : Int) j) = tel (pick p f) n j := by
  have hv : (0 : Int) < (f.length : Int) := by have := hf.pos; omega
  have i0 := Int.emod_nonneg j (Int.ne_of_gt hv)
  have i1 := Int.emod_lt_of_pos j hv
  have hi : (j % (f.length : Int)).toNat < f.length := by omega
  have e1 : tel f (p.length : Int) j = ga f (j % (f.length : Int)) + j / (f.length : Int) * (p.length : Int) := rfl
  rw [e1, tel_shift hp.pos]
  have a := hf.low _ hi
  have b := hf.top _ hi
  have e2 : tel p n (ga f (j % (f.length : Int))) = ga p (ga f (j % (f.length : Int))) := by
    unfold tel
    have z : ga f (j % (f.length : Int)) % (p.length : Int) = ga f (j % (f.length : Int)) := Int.emod_eq_of_lt a b
    have z2 : ga f (j % (f.length : Int)) / (p.length : Int) = 0 := Int.ediv_eq_zero_of_lt a b
    rw [z, z2]
    omega
  have e3 : tel (pick p f) n j = ga (pick p f) (j % (f.length : Int)) + j / (f.length : Int) * n := by
    unfold tel
    rw [pick_len]
  rw [e2, e3]
  have e4 : ga (pick p f) (j % (f.length : Int)) = ga p (ga f (j % (f.length : Int))) := pick_get hi
  rw [e4]
/-- seen twice is seen once, number by number -/
theorem ahd_ahd {p f : List Int} {n : Int} (hp : IsP p n) (hf : IsP f (p.length : Int)) (z : Int) : ahd f (p.length : Int) (ahd p n z) = ahd (pick p f) n z := by
  refine eq_of_le_iff fun j => ?_
  rw [gc hf, gc hp, gc (pick_places hp hf), tel_tel hp hf]

theorem map_twice {w p f : List Int} (hp : IsP p (w.length : Int)) (hf : IsP f (p.length : Int)) (d : Int) :
    seeM (p.map fun o => ahd p (w.length : Int) (ga w o - d)) f = (pick p f).map fun o => ahd (pick p f) (w.length : Int) (ga w o - d) := by
  unfold seeM
  rw [List.length_map]
  unfold pick
  rw [List.map_map]
  refine List.map_congr_left fun k hk => ?_
  obtain ⟨i, hi, e⟩ := List.getElem_of_mem hk
  have e' : f.getD i 0 = k := by rw [List.getD_eq_getElem?_getD, List.getElem?_eq_getElem hi, ← e]; rfl
  have a := hf.low i hi
  have b := hf.top i hi
  rw [e'] at a b
  have ek : ga (p.map fun o => ahd p (w.length : Int) (ga w o - d)) k = ahd p (w.length : Int) (ga w (ga p k) - d) := by
    unfold ga
    exact getD_map (d := 0) (by omega)
  rw [ek]
  exact ahd_ahd hp hf _
theorem twice {w p f : List Int} (hp : IsP p (w.length : Int)) (hf : IsP f (p.length : Int)) : seeM (seeM w p) f = seeM w (pick p f) := by
  have := map_twice hp hf 0
  simpa [seeM] using this
theorem twice_str {w p f : List Int} (hp : IsP p (w.length : Int)) (hf : IsP f (p.length : Int)) : seeM (strM w p) f = strM w (pick p f) := map_twice hp hf 1

/-! ### put together -/
theorem led_shift {w : List Int} (h : 0 < w.length) (z k : Int) : led w (z + k * (w.length : Int)) = led w z + k * (w.length : Int) := by
  unfold led
  rw [Int.add_mul_emod_self_right, Int.add_mul_ediv_right _ _ (by omega), Int.add_mul]
  omega
theorem led_mono {w : List Int} (h : IsW w) {y z : Int} (hyz : y ≤ z) : led w y ≤ led w z := by
  have hn : (0 : Int) < (w.length : Int) := by have := h.pos; omega
  have ey := Int.mul_ediv_add_emod y (w.length : Int)
  have ez := Int.mul_ediv_add_emod z (w.length : Int)
  have y0 := Int.emod_nonneg y (Int.ne_of_gt hn)
  have y1 := Int.emod_lt_of_pos y hn
  have z0 := Int.emod_nonneg z (Int.ne_of_gt hn)
  have z1 := Int.emod_lt_of_pos z hn
  have ht := h.turn
  unfold led ga
  generalize y / (w.length : Int) = a at *
  generalize y % (w.length : Int) = b at *
  generalize z / (w.length : Int) = c at *
  generalize z % (w.length : Int) = d at *
  have m1 := h.mono b.toNat (w.length - 1) (by omega) (by omega)
  have m2 := h.mono 0 d.toNat (by omega) (by omega)
  rcases Int.lt_trichotomy a c with q | q | q
  · have a1 : (w.length : Int) * (a + 1) ≤ (w.length : Int) * c := Int.mul_le_mul_of_nonneg_left (by omega) (by omega)
    rw [Int.mul_add] at a1
    have c1 := Int.mul_comm a (w.length : Int)
    have c2 := Int.mul_comm c (w.length : Int)
    omega
  · subst q
    have := h.mono b.toNat d.toNat (by omega) (by omega)
    omega
  · have a1 : (w.length : Int) * (c + 1) ≤ (w.length : Int) * a := Int.mul_le_mul_of_nonneg_left (by omega) (by omega)
    rw [Int.mul_add] at a1
    omega
theorem led_in {w : List Int} {i : Nat} (h : i < w.length) : led w (i : Int) = w.getD i 0 := by
  unfold led
  have z : ((i : Nat) : Int) % (w.length : Int) = (i : Int) := Int.emod_eq_of_lt (by omega) (by omega)
  have z2 : ((i : Nat) : Int) / (w.length : Int) = 0 := Int.ediv_eq_zero_of_lt (by omega) (by omega)
  rw [z, z2, ga_nat]
  omega
/-- two wheels put together, the second one first -/
def putM (d o : List Int) : List Int := (List.range d.length).map fun (z : Nat) => led d (led o (z : Int))
theorem putM_len (d o : List Int) : (putM d o).length = d.length := by unfold putM; rw [List.length_map, List.length_range]
theorem getD_range {f : Nat → Int} {n i : Nat} (h : i < n) : ((List.range n).map f).getD i 0 = f i := by
  rw [List.getD_eq_getElem?_getD, List.getElem?_map, List.getElem?_range h]; rfl
theorem putM_get {d o : List Int} {i : Nat} (h : i < d.length) : (putM d o).getD i 0 = led d (led o (i : Int)) := getD_range (f := fun (z : Nat) => led d (led o (z : Int))) h
theorem putM_wheel {d o : List Int} (hd : IsW d) (ho : IsW o) (hl : o.length = d.length) : IsW (putM d o) := by
  refine ⟨by rw [putM_len]; exact hd.pos, fun i j hij hj => ?_, ?_⟩
  · rw [putM_len] at hj
    rw [putM_get hj, putM_get (Nat.lt_of_le_of_lt hij hj)]
    exact led_mono hd (led_mono ho (by omega))
  · rw [putM_len]
    have hp := hd.pos
    rw [putM_get (show d.length - 1 < d.length by omega), putM_get hp]
    have s1 := led_shift ho.pos ((0 : Nat) : Int) 1
    have s2 := led_shift hd.pos (led o ((0 : Nat) : Int)) 1
    rw [Int.one_mul, hl] at s1
    rw [Int.one_mul] at s2
    rw [← s2, ← s1]
    exact led_mono hd (led_mono ho (by omega))
theorem led_tel {d p : List Int} (hp : IsP p (d.length : Int)) (hd : 0 < d.length) (y : Int) : led (seeM d p) y = ahd p (d.length : Int) (led d (tel p (d.length : Int) y)) := by
  have hu : (0 : Int) < (p.length : Int) := by have := hp.pos; omega
  have i0 := Int.emod_nonneg y (Int.ne_of_gt hu)
  have i1 := Int.emod_lt_of_pos y hu
  have hi : (y % (p.length : Int)).toNat < p.length := by omega
  have e1 : led (seeM d p) y = ga (seeM d p) (y % (p.length : Int)) + y / (p.length : Int) * (p.length : Int) := by
    unfold led
    rw [seeM_len]
  have e2 : ga (seeM d p) (y % (p.length : Int)) = ahd p (d.length : Int) (ga d (p.getD (y % (p.length : Int)).toNat 0)) := seeM_get hi
  rw [e1, e2]
  have e3 : tel p (d.length : Int) y = ga p (y % (p.length : Int)) + y / (p.length : Int) * (d.length : Int) := rfl
  rw [e3, led_shift hd, ahd_shift (by omega)]
  have a := hp.low _ hi
  have b := hp.top _ hi
  have e4 : led d (ga p (y % (p.length : Int))) = ga d (p.getD (y % (p.length : Int)).toNat 0) := by
    unfold led
    have z : ga p (y % (p.length : Int)) % (d.length : Int) = ga p (y % (p.length : Int)) := Int.emod_eq_of_lt a b
    have z2 : ga p (y % (p.length : Int)) / (d.length : Int) = 0 := Int.ediv_eq_zero_of_lt a b
    rw [z, z2]
    show ga d (ga p (y % (p.length : Int))) + 0 * (d.length : Int) = ga d (ga p (y % (p.length : Int)))
    omega
  rw [e4]
/-- put together seen is at least seen put together -/
theorem put_seen {d o p : List Int} (hd : IsW d) (ho : IsW o) (hl : o.length = d.length) (hp : IsP p (d.length : Int)) {i : Nat} (hi : i < p.length) :
    (putM (seeM d p) (seeM o p)).getD i 0 ≤ (seeM (putM d o) p).getD i 0 := by
  have hp2 : IsP p (o.length : Int) := by rw [hl]; exact hp
  rw [putM_get (by rw [seeM_len]; exact hi), seeM_get hi, putM_len]
  rw [led_in (w := seeM o p) (by rw [seeM_len]; exact hi), seeM_get hi, led_tel hp hd.pos]
  refine ahd_mono hp ?_
  have a := hp.low i hi
  have b := hp.top i hi
  have e : ga (putM d o) (p.getD i 0) = led d (led o (p.getD i 0)) := by
    have := putM_get (d := d) (o := o) (i := (p.getD i 0).toNat) (by omega)
    have e2 : (((p.getD i 0).toNat : Nat) : Int) = p.getD i 0 := by omega
    rw [e2] at this
    exact this
  rw [e]
  refine led_mono hd ?_
  have e3 : led o (p.getD i 0) = ga o (p.getD i 0) := by
    have := led_in (w := o) (i := (p.getD i 0).toNat) (by omega)
    have e2 : (((p.getD i 0).toNat : Nat) : Int) = p.getD i 0 := by omega
    rw [e2] at this
    exact this
  rw [e3, hl]
  exact tel_ahd hp _

/-! ### the law's own reading -/
def namM (p : List Int) (n : Int) (z : Int) (s : Bool) : Int := z / n * (p.length : Int) + ((p.filter fun o => decide (o < z % n) || (decide (o = z % n) && !s)).length : Int) - 1
theorem namM_false (p : List Int) (n z : Int) : namM p n z false = ahd p n z := by
  unfold namM ahd cnt
  have e : (fun o : Int => decide (o < z % n) || (decide (o = z % n) && !false)) = fun o => decide (o ≤ z % n) := by
    funext o
    by_cases h1 : o < z % n
    · have h2 : o ≤ z % n := by omega
      simp [h1, h2]
    · by_cases h3 : o = z % n
      · subst h3; simp
      · have h2 : ¬ o ≤ z % n := by omega
        simp [h1, h2, h3]
  rw [e]
theorem namM_true {p : List Int} {n : Int} (hp : IsP p n) (z : Int) : namM p n z true = ahd p n (z - 1) := by
  have hn := hp.npos
  have ez := Int.mul_ediv_add_emod z n
  have r0 := Int.emod_nonneg z (Int.ne_of_gt hn)
  have r1 := Int.emod_lt_of_pos z hn
  unfold namM ahd cnt
  have e : (fun o : Int => decide (o < z % n) || (decide (o = z % n) && !true)) = fun o => decide (o < z % n) := by
    funext o; simp
  rw [e]
  by_cases h : z % n = 0
  · have e1 : (z - 1) % n = n - 1 := by
      have : z - 1 = (n - 1) + (z / n - 1) * n := by rw [Int.sub_mul, Int.one_mul, Int.mul_comm]; omega
      rw [this, Int.add_mul_emod_self_right]
      exact Int.emod_eq_of_lt (by omega) (by omega)
    have e2 : (z - 1) / n = z / n - 1 := by
      have : z - 1 = (n - 1) + (z / n - 1) * n := by rw [Int.sub_mul, Int.one_mul, Int.mul_comm]; omega
      rw [this, Int.add_mul_ediv_right _ _ (by omega), Int.ediv_eq_zero_of_lt (by omega) (by omega)]
      have e3 : n - 1 + (z / n - 1) * n = z - 1 := this.symm
      omega
    rw [e1, e2, h]
    have f1 : p.filter (fun o => decide (o < 0)) = [] := by
      rw [List.filter_eq_nil_iff]
      intro o ho
      obtain ⟨i, hi, e⟩ := List.getElem_of_mem ho
      have a := hp.low i hi
      rw [List.getD_eq_getElem?_getD, List.getElem?_eq_getElem hi] at a
      have a' : 0 ≤ p[i] := a
      simp only [decide_eq_true_eq]
      omega
    have f2 : p.filter (fun o => decide (o ≤ n - 1)) = p := by
      rw [List.filter_eq_self]
      intro o ho
      obtain ⟨i, hi, e⟩ := List.getElem_of_mem ho
      have a := hp.top i hi
      rw [List.getD_eq_getElem?_getD, List.getElem?_eq_getElem hi] at a
      have a' : p[i] < n := a
      simp only [decide_eq_true_eq]
      omega
    rw [f1, f2, Int.sub_mul]
    simp
  · have e1 : (z - 1) % n = z % n - 1 := by
      have : z - 1 = (z % n - 1) + z / n * n := by rw [Int.mul_comm]; omega
      rw [this, Int.add_mul_emod_self_right]
      have e3 : z % n - 1 + z / n * n = z - 1 := this.symm
      exact Int.emod_eq_of_lt (by omega) (by omega)
    have e2 : (z - 1) / n = z / n := by
      have : z - 1 = (z % n - 1) + z / n * n := by rw [Int.mul_comm]; omega
      rw [this, Int.add_mul_ediv_right _ _ (by omega), Int.ediv_eq_zero_of_lt (by omega) (by omega)]
      have e3 : z % n - 1 + z / n * n = z - 1 := this.symm
      omega
    rw [e1, e2]
    have f : (fun o : Int => decide (o < z % n)) = fun o => decide (o ≤ z % n - 1) := by
      funext o
      exact decide_eq_decide.mpr (by omega)
    rw [f]
/-- the law's own seen -/
def lseM (w p : List Int) (s : Bool) : List Int := (List.range p.length).map fun (i : Nat) => namM p (w.length : Int) (led w (ga p (i : Int))) s
theorem lseM_len (w p : List Int) (s : Bool) : (lseM w p s).length = p.length := by unfold lseM; rw [List.length_map, List.length_range]
theorem range_map {p : List Int} {f : Int → Int} : ((List.range p.length).map fun (i : Nat) => f (ga p (i : Int))) = p.map f := by
  refine List.ext_getElem (by simp) fun i h1 h2 => ?_
  simp only [List.getElem_map, List.getElem_range]
  have hi : i < p.length := by simpa using h2
  have : ga p (i : Int) = p[i] := by
    unfold ga
    show p.getD i 0 = _
    rw [List.getD_eq_getElem?_getD, List.getElem?_eq_getElem hi]; rfl
  rw [this]
theorem led_place {w p : List Int} {o : Int} (hp : IsP p (w.length : Int)) (ho : o ∈ p) : led w o = ga w o := by
  obtain ⟨i, hi, e⟩ := List.getElem_of_mem ho
  have e' : p.getD i 0 = o := by rw [List.getD_eq_getElem?_getD, List.getElem?_eq_getElem hi, ← e]; rfl
  have a := hp.low i hi
  have b := hp.top i hi
  rw [e'] at a b
  have := led_in (w := w) (i := o.toNat) (by omega)
  have e2 : ((o.toNat : Nat) : Int) = o := by omega
  rw [e2] at this
  exact this
theorem lseM_false {w p : List Int} (hp : IsP p (w.length : Int)) : lseM w p false = seeM w p := by
  unfold lseM
  rw [range_map (f := fun o => namM p (w.length : Int) (led w o) false)]
  exact List.map_congr_left fun o ho => by
    show namM p (w.length : Int) (led w o) false = _
    rw [namM_false, led_place hp ho]
theorem lseM_true {w p : List Int} (hp : IsP p (w.length : Int)) : lseM w p true = strM w p := by
  unfold lseM
  rw [range_map (f := fun o => namM p (w.length : Int) (led w o) true)]
  exact List.map_congr_left fun o ho => by
    show namM p (w.length : Int) (led w o) true = _
    rw [namM_true hp, led_place hp ho]
end K22
end
set_option Elab.async false
set_option linter.all false
set_option maxRecDepth 100000
set_option maxHeartbeats 2000000
namespace K22
open PySem PySem.Spec PyProof.Rows L2

/-! ## what is known (F), what is there (H), and what a step leaves -/
structure Gr (T : Option Addr) (F H F2 H2 : Hp) : Prop where
  ff : Same F F2
  hh : ∀ a o, T ≠ some a → H a = some o → H2 a = some o
  fh : Same F2 H2
  nw : ∀ a, F2 a ≠ none → F a ≠ none ∨ H a = none
  st : ∀ a, H a ≠ none → H2 a ≠ none
def Tn (T : Option Addr) (n : Nat) (F H : Hp) : Prop := ∀ t, T = some t → F t = none ∧ ∃ x y z : Int, H t = some (.lst [.int x, .int y, .int z]) ∧ 0 ≤ z ∧ z ≤ (n : Int)
variable {T : Option Addr} {F F1 F2 H H1 H2 : Hp} {n m l k : Nat}
theorem none_or {H : Hp} {a : Addr} (h : ¬ H a ≠ none) : H a = none := Classical.byContradiction h
theorem Gr.refl (h : Same F H) : Gr T F H F H := ⟨Same.refl _, fun _ _ _ e => e, h, fun _ e => .inl e, fun _ e => e⟩
theorem Gr.trans {F3 H3 : Hp} (a : Gr T F1 H1 F2 H2) (b : Gr T F2 H2 F3 H3) : Gr T F1 H1 F3 H3 :=
  ⟨a.ff.trans b.ff, fun x o hx e => b.hh x o hx (a.hh x o hx e), b.fh, fun x e => by
    rcases b.nw x e with q | q
    · exact a.nw x q
    · exact .inr (none_or fun z => a.st x z q), fun x e => b.st x (a.st x e)⟩
theorem Gr.lift (a : Gr none F1 H1 F2 H2) : Gr T F1 H1 F2 H2 := ⟨a.ff, fun x o _ e => a.hh x o (by simp) e, a.fh, a.nw, a.st⟩
theorem Gr.new {p : Addr} {o : HO} (h : Same F H) (hp : H p = none) : Gr T F H (upd F p o) (upd H p o) := by
  have fp : F p = none := h.free hp
  refine ⟨fun b x e => by rw [upd_ne (ne_of_none e fp)]; exact e, fun b x _ e => by rw [upd_ne (ne_of_none e hp)]; exact e, fun b x e => ?_, fun b e => ?_, fun b e => ?_⟩
  · by_cases hb : b = p
    · subst hb; rw [upd_same] at e ⊢; exact e
    · rw [upd_ne hb] at e ⊢; exact h b x e
  · by_cases hb : b = p
    · subst hb; exact .inr hp
    · rw [upd_ne hb] at e; exact .inl e
  · by_cases hb : b = p
    · subst hb; rw [upd_same]; intro z; cases z
    · rw [upd_ne hb]; exact e
/-- what is known gets a thing that is there, new since the beginning -/
theorem Gr.know {p : Addr} {o : HO} (g : Gr T F1 H1 F2 H2) (hn : H1 p = none) (hf : F2 p = none) (hp : H2 p = some o) : Gr T F1 H1 (upd F2 p o) H2 := by
  refine ⟨fun b x e => ?_, g.hh, fun b x e => ?_, fun b e => ?_, g.st⟩
  · have := g.ff b x e
    rw [upd_ne (ne_of_none this hf)]; exact this
  · by_cases hb : b = p
    · subst hb; rw [upd_same] at e; cases e; exact hp
    · rw [upd_ne hb] at e; exact g.fh b x e
  · by_cases hb : b = p
    · subst hb; exact .inr hn
    · rw [upd_ne hb] at e; exact g.nw b e
theorem know_same {p : Addr} {o : HO} (hf : F p = none) : Same F (upd F p o) := fun b x e => by rw [upd_ne (ne_of_none e hf)]; exact e
/-- a thing that was not there at the beginning, and is not among the known ones, changes -/
theorem Gr.mut {p : Addr} {o : HO} (g : Gr T F1 H1 F2 H2) (hn : H1 p = none) (hf : F2 p = none) : Gr T F1 H1 F2 (upd H2 p o) := by
  refine ⟨g.ff, fun b x ht e => ?_, fun b x e => ?_, g.nw, fun b e => ?_⟩
  · rw [upd_ne (ne_of_none e hn)]; exact g.hh b x ht e
  · rw [upd_ne (ne_of_none e hf)]; exact g.fh b x e
  · by_cases hb : b = p
    · subst hb; rw [upd_same]; intro z; cases z
    · rw [upd_ne hb]; exact g.st b e
/-- what is not known and there stays not known -/
theorem Gr.hid {a : Addr} (g : Gr T F1 H1 F2 H2) (hf : F1 a = none) (hh : H1 a ≠ none) : F2 a = none := none_or fun z => by
  rcases g.nw a z with q | q
  · exact q hf
  · exact hh q
theorem Gr.free {a : Addr} (g : Gr T F1 H1 F2 H2) (h : H2 a = none) : H1 a = none := none_or fun z => g.st a z h
theorem tn0 : Tn none n F H := fun _ e => nomatch e
theorem Tn.keep (t : Tn T n F H) (g : Gr none F H F2 H2) : Tn T n F2 H2 := fun a e => by
  obtain ⟨h1, x, y, z, h2, h3⟩ := t a e
  exact ⟨g.hid h1 (by rw [h2]; intro q; cases q), x, y, z, g.hh a _ (by simp) h2, h3⟩
theorem Tn.le (t : Tn T n F H) (h : n ≤ m) : Tn T m F H := fun a e => by
  obtain ⟨h1, x, y, z, h2, h3, h4⟩ := t a e
  exact ⟨h1, x, y, z, h2, h3, by omega⟩

/-! ## a run: from what is known to a value and what is known of it -/
def Rn (T : Option Addr) (n m : Nat) {α : Type} (F : Hp) (P : α → Hp → Prop) (k : Hp → (α → Hp → Prop) → Prop) : Prop :=
  ∀ F1 H1, Same F F1 → Same F1 H1 → Tn T n F1 H1 → ∀ Q : α → Hp → Prop, (∀ v F2 H2, Gr T F1 H1 F2 H2 → Tn T m F2 H2 → P v F2 → Q v H2) → k H1 Q
class Mo {α : Type} (P : α → Hp → Prop) : Prop where
  mo : ∀ v F F1, Same F F1 → P v F → P v F1
def Is {α : Type} (x : α) : α → Hp → Prop := fun v _ => v = x
instance {α : Type} (x : α) : Mo (Is x) := ⟨fun _ _ _ _ h => h⟩
/-- a tuple, a list of ints -/
def TuI (ns : List Int) : V → Hp → Prop := fun v F => ∃ p, v = .ref p ∧ F p = some (.tup (ns.map V.int))
def LsI (ns : List Int) : V → Hp → Prop := fun v F => ∃ p, v = .ref p ∧ F p = some (.lst (ns.map V.int))
instance (ns : List Int) : Mo (TuI ns) := ⟨fun _ _ _ s ⟨p, e, h⟩ => ⟨p, e, s p _ h⟩⟩
instance (ns : List Int) : Mo (LsI ns) := ⟨fun _ _ _ s ⟨p, e, h⟩ => ⟨p, e, s p _ h⟩⟩
def Cn (A : V → Hp → Prop) (B : List V → Hp → Prop) : List V → Hp → Prop := fun vs F => ∃ v r, vs = v :: r ∧ A v F ∧ B r F
instance {A : V → Hp → Prop} {B : List V → Hp → Prop} [a : Mo A] [b : Mo B] : Mo (Cn A B) := ⟨fun _ _ _ s ⟨v, r, e, h1, h2⟩ => ⟨v, r, e, a.mo _ _ _ s h1, b.mo _ _ _ s h2⟩⟩
/-- a new tuple, a new list -/
def NT (A : List V → Hp → Prop) : V → Hp → Prop := fun v F => ∃ p vs, v = .ref p ∧ F p = some (.tup vs) ∧ A vs F
def NL (A : List V → Hp → Prop) : V → Hp → Prop := fun v F => ∃ p vs, v = .ref p ∧ F p = some (.lst vs) ∧ A vs F
instance {A : List V → Hp → Prop} [a : Mo A] : Mo (NT A) := ⟨fun _ _ _ s ⟨p, vs, e, h1, h2⟩ => ⟨p, vs, e, s p _ h1, a.mo _ _ _ s h2⟩⟩
instance {A : List V → Hp → Prop} [a : Mo A] : Mo (NL A) := ⟨fun _ _ _ s ⟨p, vs, e, h1, h2⟩ => ⟨p, vs, e, s p _ h1, a.mo _ _ _ s h2⟩⟩

section
variable {α β : Type} {P : α → Hp → Prop} {A : β → Hp → Prop}
theorem Rn.at {q : Hp → (α → Hp → Prop) → Prop} (h : Rn T n m F P q) (s : Same F F1) : Rn T n m F1 P q := fun F2 H2 s2 => h F2 H2 (s.trans s2)
theorem Rn.post {P' : α → Hp → Prop} {q : Hp → (α → Hp → Prop) → Prop} (h : Rn T n m F P q) (hp : ∀ v F1, Same F F1 → P v F1 → P' v F1) : Rn T n m F P' q :=
  fun F1 H1 s1 s2 t Q r => h F1 H1 s1 s2 t Q fun v F2 H2 g t2 p => r v F2 H2 g t2 (hp v F2 (s1.trans g.ff) p)
theorem Rn.le {q : Hp → (α → Hp → Prop) → Prop} (h : Rn T n m F P q) (hl : m ≤ l) : Rn T n l F P q :=
  fun F1 H1 s1 s2 t Q r => h F1 H1 s1 s2 t Q fun v F2 H2 g t2 p => r v F2 H2 g (t2.le hl) p
theorem Rn.lift {q : Hp → (α → Hp → Prop) → Prop} (h : Rn none 0 0 F P q) : Rn T n n F P q :=
  fun F1 H1 s1 s2 t Q r => h F1 H1 s1 s2 tn0 Q fun v F2 H2 g _ p => r v F2 H2 g.lift (t.keep g) p
theorem Rn.is {x : α} (h : ∀ F1, Same F F1 → P x F1) : Rn T n n F P (fun H Q => Q x H) := fun F1 _ s1 s2 t _ r => r x F1 _ (Gr.refl s2) t (h F1 s1)
theorem Rn.bind {q1 : Hp → (β → Hp → Prop) → Prop} {q2 : β → Hp → (α → Hp → Prop) → Prop} (h1 : Rn T n m F A q1) (h2 : ∀ x F1, Same F F1 → A x F1 → Rn T m l F1 P (q2 x)) : Rn T n l F P (fun H Q => q1 H fun x H1 => q2 x H1 Q) :=
  fun F1 H1 s1 s2 t Q r => h1 F1 H1 s1 s2 t _ fun x F2 H2 g t2 a => h2 x F2 (s1.trans g.ff) a F2 H2 (Same.refl _) g.fh t2 Q fun v F3 H3 g3 t3 p => r v F3 H3 (g.trans g3) t3 p
end

/-! ## expressions -/
section
variable {K : PySem.W.Frag} {σ : L2.St} {ta tb te tl : TE} {tt tu : TT} {t tr : TA} {v x y z : V} {A B P : V → Hp → Prop} {R : R2} {i j : Int} {b c : Bool}
theorem e_var {i : Nat} (h : σ[i]? = some (some v)) : Rn T n n F (Is v) (tVar i σ) := fun F1 H1 s1 s2 tn Q r => ⟨v, h, r v F1 H1 (Gr.refl s2) tn rfl⟩
theorem e_c : Rn T n n F (Is v) (tC v σ) := Rn.is fun _ _ => rfl
theorem e_op [ma : Mo A] (ha : Rn T n m F A (ta σ)) (hb : Rn T m l F B (tb σ)) (hr : ∀ x y F1, Same F F1 → A x F1 → B y F1 → Rn T l k F1 P (fun H Q => R x y H Q)) : Rn T n k F P (tOp R ta tb σ) :=
  Rn.bind (q1 := ta σ) (q2 := fun x H Q => tb σ H fun y H2 => R x y H2 Q) ha fun x F1 s1 a => Rn.bind (q1 := tb σ) (q2 := fun y H Q => R x y H Q) (hb.at s1) fun y F2 s2 b => hr x y F2 (s1.trans s2) (ma.mo _ _ _ s2 a) b
theorem e_int {C : Int → Int → Prop} {g : Int → Int → V} (ha : Rn T n m F (Is (.int i)) (ta σ)) (hb : Rn T m l F (Is (.int j)) (tb σ)) (hc : C i j) (hv : g i j = v := by rfl) : Rn T n l F (Is v) (tOp (rI C g) ta tb σ) :=
  e_op ha hb fun x y F1 _ a b => fun F2 H2 s1 s2 tn Q r => ⟨i, j, a, b, hc, r _ F2 H2 (Gr.refl s2) tn hv⟩
theorem e_int0 {g : Int → Int → V} (ha : Rn T n m F (Is (.int i)) (ta σ)) (hb : Rn T m l F (Is (.int j)) (tb σ)) (hv : g i j = v := by rfl) : Rn T n l F (Is v) (tOp (rI0 g) ta tb σ) :=
  e_op ha hb fun x y F1 _ a b => fun F2 H2 s1 s2 tn Q r => ⟨i, j, a, b, r _ F2 H2 (Gr.refl s2) tn hv⟩
theorem e_eq (ha : Rn T n m F (Is x) (ta σ)) (hb : Rn T m l F (Is y) (tb σ)) (hs : scal x y = true) : Rn T n l F (Is (.bl (decide (x = y)))) (tOp rEq ta tb σ) :=
  e_op ha hb fun x' y' F1 _ a b => fun F2 H2 s1 s2 tn Q r => by
    cases a; cases b
    exact ⟨hs, r _ F2 H2 (Gr.refl s2) tn rfl⟩
theorem e_ne (ha : Rn T n m F (Is x) (ta σ)) (hb : Rn T m l F (Is y) (tb σ)) (hs : scal x y = true) : Rn T n l F (Is (.bl (!decide (x = y)))) (tOp rNe ta tb σ) :=
  e_op ha hb fun x' y' F1 _ a b => fun F2 H2 s1 s2 tn Q r => by
    cases a; cases b
    exact ⟨hs, r _ F2 H2 (Gr.refl s2) tn rfl⟩
theorem e_un {ru : V → Hp → VK → Prop} (ha : Rn T n m F A (ta σ)) (hr : ∀ x F1, Same F F1 → A x F1 → Rn T m l F1 P (fun H Q => ru x H Q)) : Rn T n l F P (tUn ru ta σ) :=
  Rn.bind (q1 := ta σ) (q2 := fun x H Q => ru x H Q) ha hr
theorem e_neg (ha : Rn T n m F (Is (.int i)) (ta σ)) : Rn T n m F (Is (.int (-i))) (tUn (rU fun i => .int (-i)) ta σ) :=
  e_un ha fun x F1 s1 a => fun F2 H2 s1 s2 tn Q r => ⟨i, a, r _ F2 H2 (Gr.refl s2) tn rfl⟩
theorem e_ixT {p : Addr} {xs : List V} (ha : Rn T n m F (Is (.ref p)) (ta σ)) (hp : F p = some (.tup xs)) (hb : Rn T m l F (Is (.int i)) (tb σ)) (hi : atI xs i = some v) : Rn T n l F (Is v) (tOp (rIxT K) ta tb σ) :=
  e_op ha hb fun x y F1 s0 a b => fun F2 H2 s1 s2 tn Q r => ⟨p, xs, i, v, a, b, .inl (.inl (s2 _ _ (s1 _ _ (s0 _ _ hp)))), hi, r _ F2 H2 (Gr.refl s2) tn rfl⟩
theorem e_ixL {p : Addr} {xs : List V} (ha : Rn T n m F (Is (.ref p)) (ta σ)) (hp : F p = some (.lst xs)) (hb : Rn T m l F (Is (.int i)) (tb σ)) (hi : atI xs i = some v) : Rn T n l F (Is v) (tOp (rIxL K) ta tb σ) :=
  e_op ha hb fun x y F1 s0 a b => fun F2 H2 s1 s2 tn Q r => ⟨p, xs, i, v, a, b, .inl (.inl (s2 _ _ (s1 _ _ (s0 _ _ hp)))), hi, r _ F2 H2 (Gr.refl s2) tn rfl⟩
/-- arguments -/
theorem a_nil : Rn T n n F (Is ([] : List V)) (tNil σ) := Rn.is fun _ _ => rfl
theorem a_cons {B : List V → Hp → Prop} [ma : Mo A] (h : Rn T n m F A (ta σ)) (hr : Rn T m l F B (tr σ)) : Rn T n l F (Cn A B) (tCons ta tr σ) :=
  Rn.bind (q1 := ta σ) (q2 := fun x H Q => tr σ H fun xs H2 => Q (x :: xs) H2) h fun x F1 s1 a => fun F2 H2 s2 s3 tn Q r => hr F2 H2 (s1.trans s2) s3 tn _ fun xs F3 H3 g tn3 b =>
    r _ F3 H3 g tn3 ⟨x, xs, rfl, ma.mo _ _ _ (s2.trans g.ff) a, b⟩
theorem e_tup {B : List V → Hp → Prop} [mb : Mo B] (h : Rn T n m F B (t σ)) (hl : ∀ vs F1, B vs F1 → vs.length ≤ 1000) : Rn T n m F (NT B) (tTup t σ) := fun F1 H1 s1 s2 tn Q r =>
  h F1 H1 s1 s2 tn _ fun vs F2 H2 g tn2 b => ⟨Nat.le_of_lt (small1000 (hl vs F2 b)), fun p hp => r _ _ _ (g.trans (Gr.new g.fh hp)) (tn2.keep (Gr.new g.fh hp)) ⟨p, vs, rfl, upd_same, mb.mo _ _ _ (Gr.new (T := T) g.fh hp).ff b⟩⟩
theorem e_lst {B : List V → Hp → Prop} [mb : Mo B] (h : Rn T n m F B (t σ)) (hl : ∀ vs F1, B vs F1 → vs.length ≤ 1000) : Rn T n m F (NL B) (tLst t σ) := fun F1 H1 s1 s2 tn Q r =>
  h F1 H1 s1 s2 tn _ fun vs F2 H2 g tn2 b => ⟨Nat.le_of_lt (small1000 (hl vs F2 b)), fun p hp => r _ _ _ (g.trans (Gr.new g.fh hp)) (tn2.keep (Gr.new g.fh hp)) ⟨p, vs, rfl, upd_same, mb.mo _ _ _ (Gr.new (T := T) g.fh hp).ff b⟩⟩
/-- a call of values -/
theorem e_cb {B : List V → Hp → Prop} {r : List V → Hp → VK → Prop} (h : Rn T n m F B (t σ)) (hr : ∀ vs F1, Same F F1 → B vs F1 → Rn T m l F1 P (fun H Q => r vs H Q)) : Rn T n l F P (tCB r t σ) :=
  Rn.bind (q1 := t σ) (q2 := fun vs H Q => r vs H Q) h hr
/-- a call of a def that changes nothing | that draws from the tin -/
def mkSp (R : List V → Hp → (V → Hp → Prop) → Prop) : Sp := fun vs H Q _ => ∃ F P, Same F H ∧ R vs F P ∧ ∀ v F2 H2, Gr none F H F2 H2 → P v F2 → Q v H2
def mkSpT (R : List V → Hp → Addr → Nat → Nat → (V → Hp → Prop) → Prop) : Sp := fun vs H Q _ => ∃ F t n m P, Same F H ∧ Tn (some t) n F H ∧ R vs F t n m P ∧ ∀ v F2 H2, Gr (some t) F H F2 H2 → Tn (some t) m F2 H2 → P v F2 → Q v H2
theorem e_call {B : List V → Hp → Prop} [mb : Mo B] {S : List V → Hp → (V → Hp → Prop) → Prop} {E : XK} (h : Rn T n m F B (t σ)) (hR : ∀ vs F1, Same F F1 → B vs F1 → S vs F1 P) : Rn T n m F P (tCall (mkSp S) [] E t σ) :=
  Rn.bind (q1 := t σ) (q2 := fun vs H Q => mkSp S (vs ++ []) H Q E) h fun vs F1 s1 b => Rn.lift fun F2 H2 s2 s3 _ Q r => by
    rw [List.append_nil]
    exact ⟨F2, P, s3, hR vs F2 (s1.trans s2) (mb.mo _ _ _ s2 b), fun v F3 H3 g p => r v F3 H3 g tn0 p⟩
theorem e_call0 {S : List V → Hp → (V → Hp → Prop) → Prop} {E : XK} (hR : ∀ F1, Same F F1 → S [] F1 P) : Rn T n n F P (tCall (mkSp S) [] E tNil σ) :=
  e_call (B := Is []) a_nil fun vs F1 s e => by
    cases e
    exact hR F1 s
theorem e_callT {t0 : Addr} {B : List V → Hp → Prop} [mb : Mo B] {S : List V → Hp → Addr → Nat → Nat → (V → Hp → Prop) → Prop} {E : XK} (h : Rn (some t0) n m F B (t σ)) (hR : ∀ vs F1, Same F F1 → B vs F1 → S vs F1 t0 m l P) : Rn (some t0) n l F P (tCall (mkSpT S) [] E t σ) :=
  Rn.bind (q1 := t σ) (q2 := fun vs H Q => mkSpT S (vs ++ []) H Q E) h fun vs F1 s1 b => fun F2 H2 s2 s3 tn Q r => by
    rw [List.append_nil]
    exact ⟨F2, t0, m, l, P, s3, tn, hR vs F2 (s1.trans s2) (mb.mo _ _ _ s2 b), r⟩

/-! tests -/
theorem t_val (h : Rn T n m F (Is (.bl b)) (ta σ)) : Rn T n m F (Is b) (tB ta σ) :=
  Rn.bind (q1 := ta σ) (q2 := fun x H Q => ∃ c, x = .bl c ∧ Q c H) h fun x F1 s1 e => fun F2 H2 s2 s3 tn Q r => ⟨b, e, r b F2 H2 (Gr.refl s3) tn rfl⟩
theorem t_test (h : Rn T n m F (Is (.bl b)) (ta σ)) : Rn T n m F (Is b) (tTest ta σ) :=
  Rn.bind (q1 := ta σ) (q2 := fun x H Q => ∃ c, x = .bl c ∧ Q c H) h fun x F1 s1 e => fun F2 H2 s2 s3 tn Q r => ⟨b, e, r b F2 H2 (Gr.refl s3) tn rfl⟩
theorem t_not (h : Rn T n m F (Is b) (tt σ)) : Rn T n m F (Is (!b)) (tNot tt σ) :=
  Rn.bind (q1 := tt σ) (q2 := fun x H Q => Q (!x) H) h fun x F1 s1 e => by
    cases e
    exact Rn.is fun _ _ => rfl
theorem t_and (h : Rn T n m F (Is b) (tt σ)) (h2 : b = true → Rn T m m F (Is c) (tu σ)) : Rn T n m F (Is (b && c)) (tAnd tt tu σ) :=
  Rn.bind (q1 := tt σ) (q2 := fun x H Q => if x = true then tu σ H Q else Q false H) h fun x F1 s1 e => by
    cases e
    cases b with
    | true => exact (h2 rfl).at s1
    | false => exact Rn.is fun _ _ => rfl
theorem t_or (h : Rn T n m F (Is b) (tt σ)) (h2 : b = false → Rn T m m F (Is c) (tu σ)) : Rn T n m F (Is (b || c)) (tOr tt tu σ) :=
  Rn.bind (q1 := tt σ) (q2 := fun x H Q => if x = true then Q true H else tu σ H Q) h fun x F1 s1 e => by
    cases e
    cases b with
    | false => exact (h2 rfl).at s1
    | true => exact Rn.is fun _ _ => rfl
theorem t_yes : Rn T n n F (Is true) (tYes σ) := Rn.is fun _ _ => rfl
theorem t_to (h : Rn T n m F (Is b) (tt σ)) (e : b = c) : Rn T n m F (Is c) (tt σ) := e ▸ h
theorem e_to (h : Rn T n m F (Is x) (ta σ)) (e : x = y) : Rn T n m F (Is y) (ta σ) := e ▸ h
theorem v_and (h : Rn T n m F (Is (.bl b)) (ta σ)) (h2 : b = true → Rn T m m F (Is (.bl c)) (tb σ)) : Rn T n m F (Is (.bl (b && c))) (tAndV ta tb σ) :=
  Rn.bind (q1 := ta σ) (q2 := fun x H Q => ∃ k, x = .bl k ∧ if k = true then tb σ H Q else Q (.bl false) H) h fun x F1 s1 e => fun F2 H2 s2 s3 tn Q r => ⟨b, e, by
    cases b with
    | true => exact (h2 rfl).at s1 F2 H2 s2 s3 tn Q r
    | false => exact r _ F2 H2 (Gr.refl s3) tn rfl⟩
theorem v_not (h : Rn T n m F (Is (.bl b)) (ta σ)) : Rn T n m F (Is (.bl (!b))) (tNotV ta σ) :=
  Rn.bind (q1 := ta σ) (q2 := fun x H (Q : V → Hp → Prop) => ∃ k, x = V.bl k ∧ Q (V.bl (!k)) H) h fun x F1 s1 e => fun F2 H2 s2 s3 tn Q r => ⟨b, e, r _ F2 H2 (Gr.refl s3) tn rfl⟩
theorem e_isN (h : Rn T n m F (Is x) (ta σ)) : Rn T n m F (Is (.bl (decide (x = .non)))) (tIsN ta σ) :=
  Rn.bind (q1 := ta σ) (q2 := fun x H (Q : V → Hp → Prop) => Q (V.bl (decide (x = .non))) H) h fun y F1 s1 e => by
    cases e
    exact Rn.is fun _ _ => rfl
theorem e_ifT (h : Rn T n m F (Is true) (tt σ)) (h1 : Rn T m l F P (ta σ)) : Rn T n l F P (tIf tt ta tb σ) :=
  Rn.bind (q1 := tt σ) (q2 := fun x H Q => if x = true then ta σ H Q else tb σ H Q) h fun x F1 s1 e => by
    cases e
    exact h1.at s1
theorem e_ifF (h : Rn T n m F (Is false) (tt σ)) (h1 : Rn T m l F P (tb σ)) : Rn T n l F P (tIf tt ta tb σ) :=
  Rn.bind (q1 := tt σ) (q2 := fun x H Q => if x = true then ta σ H Q else tb σ H Q) h fun x F1 s1 e => by
    cases e
    exact h1.at s1
theorem e_if (h : Rn T n m F (Is b) (tt σ)) (h1 : b = true → Rn T m l F P (ta σ)) (h2 : b = false → Rn T m l F P (tb σ)) : Rn T n l F P (tIf tt ta tb σ) := by
  cases b with
  | true => exact e_ifT h (h1 rfl)
  | false => exact e_ifF h (h2 rfl)

/-! isinstance -/
theorem e_isi {A B : String} (h : Rn T n m F (Is x) (ta σ)) (ht : ∀ H, Same F H → TyX K H x (.type A)) (hk : kitB A B = some b) : Rn T n m F (Is (.bl b)) (tCB (rIsi K) (tCons ta (tCons (tC (.ty B)) tNil)) σ) :=
  e_cb (a_cons h (a_cons e_c a_nil)) fun vs F1 s1 a => fun F2 H2 s2 s3 tn Q r => by
    obtain ⟨_, _, rfl, rfl, _, _, rfl, rfl, rfl⟩ := a
    exact ⟨_, .ty B, .type A, .type B, b, rfl, .ty B, ht H2 (s1.trans (s2.trans s3)), kit_ty hk, r _ F2 H2 (Gr.refl s3) tn rfl⟩
theorem e_isiT {A B C : String} (h : Rn T n m F (Is x) (ta σ)) (ht : ∀ H, Same F H → TyX K H x (.type A)) (hk : kitB A B = some b) (hk2 : kitB A C = some c) :
    Rn T n m F (Is (.bl (b || c))) (tCB (rIsiT K) (tCons ta (tCons (tTup (tCons (tC (.ty B)) (tCons (tC (.ty C)) tNil))) tNil)) σ) :=
  e_cb (a_cons h (a_cons (e_tup (a_cons e_c (a_cons e_c a_nil)) (fun vs F1 a => by obtain ⟨_, _, rfl, rfl, _, _, rfl, rfl, rfl⟩ := a; show 2 ≤ 1000; decide)) a_nil)) fun vs F1 s1 a => fun F2 H2 s2 s3 tn Q r => by
    obtain ⟨_, _, rfl, rfl, _, _, rfl, ⟨p, us, rfl, hp, hu⟩, rfl⟩ := a
    obtain ⟨_, _, rfl, rfl, _, _, rfl, rfl, rfl⟩ := hu
    refine ⟨_, p, _, .type A, [.type B, .type C], b || c, rfl, s3 _ _ (s2 _ _ hp), .cons (.ty B) (.cons (.ty C) .nil), ht H2 (s1.trans (s2.trans s3)), ?_, r _ F2 H2 (Gr.refl s3) tn rfl⟩
    refine kitAny_cons (kit_ty hk) (fun hb => kitAny_cons (kit_ty hk2) (fun hc => ?_) fun hc => ?_) fun hb => ?_
    · rw [hb, hc]; exact kitAny_nil
    · rw [hb, hc]; rfl
    · rw [hb]; rfl
theorem ty_int {H : Hp} {i : Int} : TyX K H (.int i) (.type "int") := .base (.int i)
theorem ty_tup {H : Hp} {p : Addr} {xs : List V} (h : F p = some (.tup xs)) (s : Same F H) : TyX K H (.ref p) (.type "tuple") := .base (.tup (s _ _ h))
theorem ty_lst {H : Hp} {p : Addr} {xs : List V} (h : F p = some (.lst xs)) (s : Same F H) : TyX K H (.ref p) (.type "list") := .base (.lst (s _ _ h))
theorem kII : kitB "int" "int" = some true := by decide +kernel
theorem kIB : kitB "int" "bool" = some false := by decide +kernel
theorem kIS : kitB "int" "str" = some false := by decide +kernel
theorem kIL : kitB "int" "list" = some false := by decide +kernel
theorem kIT : kitB "int" "tuple" = some false := by decide +kernel
theorem kTT : kitB "tuple" "tuple" = some true := by decide +kernel
theorem kTL : kitB "tuple" "list" = some false := by decide +kernel
theorem kLL : kitB "list" "list" = some true := by decide +kernel
theorem kLT : kitB "list" "tuple" = some false := by decide +kernel

/-! built-ins of one argument -/
def rLen (K : PySem.W.Frag) : List V → Hp → VK → Prop := fun xs H Q => ∃ p ys, xs = [.ref p] ∧ (SqL K H p ys ∨ SqT K H p ys) ∧ Q (.int ys.length) H
def rTupO (K : PySem.W.Frag) : List V → Hp → VK → Prop := fun xs H Q => ∃ p ys, xs = [.ref p] ∧ ((SqL K H p ys ∧ ∀ l, H l = none → Q (.ref l) (upd H l (.tup ys))) ∨ (SqT K H p ys ∧ Q (.ref p) H))
def rLstO (K : PySem.W.Frag) : List V → Hp → VK → Prop := fun xs H Q => ∃ p ys, xs = [.ref p] ∧ (SqL K H p ys ∨ SqT K H p ys) ∧ ∀ l, H l = none → Q (.ref l) (upd H l (.lst ys))
def rInt1 : List V → Hp → VK → Prop := fun xs H Q => (∃ i, xs = [.int i] ∧ Q (.int i) H) ∨ ∃ k, xs = [.bl k] ∧ Q (.int (if k then 1 else 0)) H
def rAbs : List V → Hp → VK → Prop := fun xs H Q => ∃ i, xs = [.int i] ∧ Q (.int (if i < 0 then -i else i)) H
def rMax : List V → Hp → VK → Prop := fun xs H Q => ∃ i j, xs = [.int i, .int j] ∧ Q (.int (if j > i then j else i)) H
def rMin : List V → Hp → VK → Prop := fun xs H Q => ∃ i j, xs = [.int i, .int j] ∧ Q (.int (if j < i then j else i)) H
theorem e_lenT {p : Addr} {xs : List V} (h : Rn T n m F (Is (.ref p)) (ta σ)) (hp : F p = some (.tup xs)) : Rn T n m F (Is (.int (xs.length : Int))) (tCB (rLen K) (tCons ta tNil) σ) :=
  e_cb (a_cons h a_nil) fun vs F1 s1 a => fun F2 H2 s2 s3 tn Q r => by
    obtain ⟨_, _, rfl, rfl, rfl⟩ := a
    exact ⟨p, xs, rfl, .inr (.inl (.inl (s3 _ _ (s2 _ _ (s1 _ _ hp))))), r _ F2 H2 (Gr.refl s3) tn rfl⟩
theorem e_lenL {p : Addr} {xs : List V} (h : Rn T n m F (Is (.ref p)) (ta σ)) (hp : F p = some (.lst xs)) : Rn T n m F (Is (.int (xs.length : Int))) (tCB (rLen K) (tCons ta tNil) σ) :=
  e_cb (a_cons h a_nil) fun vs F1 s1 a => fun F2 H2 s2 s3 tn Q r => by
    obtain ⟨_, _, rfl, rfl, rfl⟩ := a
    exact ⟨p, xs, rfl, .inl (.inl (.inl (s3 _ _ (s2 _ _ (s1 _ _ hp))))), r _ F2 H2 (Gr.refl s3) tn rfl⟩
/-- tuple(..) of a new list; list(..) -/
theorem e_tupO {B : List V → Hp → Prop} [mb : Mo B] (h : Rn T n m F (NL B) (ta σ)) : Rn T n m F (NT B) (tCB (rTupO K) (tCons ta tNil) σ) :=
  e_cb (a_cons h a_nil) fun vs F1 s1 a => fun F2 H2 s2 s3 tn Q r => by
    obtain ⟨_, _, rfl, ⟨p, ys, rfl, hp, b⟩, rfl⟩ := a
    exact ⟨p, ys, rfl, .inl ⟨.inl (.inl (s3 _ _ (s2 _ _ hp))), fun l hl => r _ _ _ (Gr.new s3 hl) (tn.keep (Gr.new s3 hl)) ⟨l, ys, rfl, upd_same, mb.mo _ _ _ (s2.trans (Gr.new (T := T) s3 hl).ff) b⟩⟩⟩
theorem e_lstO {p : Addr} {xs : List V} (h : Rn T n m F (Is (.ref p)) (ta σ)) (hp : F p = some (.tup xs)) : Rn T n m F (NL (Is xs)) (tCB (rLstO K) (tCons ta tNil) σ) :=
  e_cb (a_cons h a_nil) fun vs F1 s1 a => fun F2 H2 s2 s3 tn Q r => by
    obtain ⟨_, _, rfl, rfl, rfl⟩ := a
    exact ⟨p, xs, rfl, .inr (.inl (.inl (s3 _ _ (s2 _ _ (s1 _ _ hp))))), fun l hl => r _ _ _ (Gr.new s3 hl) (tn.keep (Gr.new s3 hl)) ⟨l, xs, rfl, upd_same, rfl⟩⟩
theorem e_lstN {B : List V → Hp → Prop} [mb : Mo B] (h : Rn T n m F (NL B) (ta σ)) : Rn T n m F (NL B) (tCB (rLstO K) (tCons ta tNil) σ) :=
  e_cb (a_cons h a_nil) fun vs F1 s1 a => fun F2 H2 s2 s3 tn Q r => by
    obtain ⟨_, _, rfl, ⟨p, ys, rfl, hp, b⟩, rfl⟩ := a
    exact ⟨p, ys, rfl, .inl (.inl (.inl (s3 _ _ (s2 _ _ hp)))), fun l hl => r _ _ _ (Gr.new s3 hl) (tn.keep (Gr.new s3 hl)) ⟨l, ys, rfl, upd_same, mb.mo _ _ _ (s2.trans (Gr.new (T := T) s3 hl).ff) b⟩⟩
theorem e_lstT {B : List V → Hp → Prop} [mb : Mo B] (h : Rn T n m F (NT B) (ta σ)) : Rn T n m F (NL B) (tCB (rLstO K) (tCons ta tNil) σ) :=
  e_cb (a_cons h a_nil) fun vs F1 s1 a => fun F2 H2 s2 s3 tn Q r => by
    obtain ⟨_, _, rfl, ⟨p, ys, rfl, hp, b⟩, rfl⟩ := a
    exact ⟨p, ys, rfl, .inr (.inl (.inl (s3 _ _ (s2 _ _ hp)))), fun l hl => r _ _ _ (Gr.new s3 hl) (tn.keep (Gr.new s3 hl)) ⟨l, ys, rfl, upd_same, mb.mo _ _ _ (s2.trans (Gr.new (T := T) s3 hl).ff) b⟩⟩
theorem e_i1 (h : Rn T n m F (Is (.int i)) (ta σ)) : Rn T n m F (Is (.int i)) (tCB rInt1 (tCons ta tNil) σ) :=
  e_cb (a_cons h a_nil) fun vs F1 s1 a => fun F2 H2 s2 s3 tn Q r => by
    obtain ⟨_, _, rfl, rfl, rfl⟩ := a
    exact .inl ⟨i, rfl, r _ F2 H2 (Gr.refl s3) tn rfl⟩
theorem e_i1b (h : Rn T n m F (Is (.bl b)) (ta σ)) : Rn T n m F (Is (.int (if b then 1 else 0))) (tCB rInt1 (tCons ta tNil) σ) :=
  e_cb (a_cons h a_nil) fun vs F1 s1 a => fun F2 H2 s2 s3 tn Q r => by
    obtain ⟨_, _, rfl, rfl, rfl⟩ := a
    exact .inr ⟨b, rfl, r _ F2 H2 (Gr.refl s3) tn rfl⟩
theorem e_abs (h : Rn T n m F (Is (.int i)) (ta σ)) : Rn T n m F (Is (.int (if i < 0 then -i else i))) (tCB rAbs (tCons ta tNil) σ) :=
  e_cb (a_cons h a_nil) fun vs F1 s1 a => fun F2 H2 s2 s3 tn Q r => by
    obtain ⟨_, _, rfl, rfl, rfl⟩ := a
    exact ⟨i, rfl, r _ F2 H2 (Gr.refl s3) tn rfl⟩
theorem e_max (h : Rn T n m F (Is (.int i)) (ta σ)) (h2 : Rn T m l F (Is (.int j)) (tb σ)) : Rn T n l F (Is (.int (if j > i then j else i))) (tCB rMax (tCons ta (tCons tb tNil)) σ) :=
  e_cb (a_cons h (a_cons h2 a_nil)) fun vs F1 s1 a => fun F2 H2 s2 s3 tn Q r => by
    obtain ⟨_, _, rfl, rfl, _, _, rfl, rfl, rfl⟩ := a
    exact ⟨i, j, rfl, r _ F2 H2 (Gr.refl s3) tn rfl⟩
theorem e_min (h : Rn T n m F (Is (.int i)) (ta σ)) (h2 : Rn T m l F (Is (.int j)) (tb σ)) : Rn T n l F (Is (.int (if j < i then j else i))) (tCB rMin (tCons ta (tCons tb tNil)) σ) :=
  e_cb (a_cons h (a_cons h2 a_nil)) fun vs F1 s1 a => fun F2 H2 s2 s3 tn Q r => by
    obtain ⟨_, _, rfl, rfl, _, _, rfl, rfl, rfl⟩ := a
    exact ⟨i, j, rfl, r _ F2 H2 (Gr.refl s3) tn rfl⟩
/-- all(..) of a new list of True -/
def AllT : List V → Hp → Prop := fun vs _ => ∀ y ∈ vs, y = .bl true
instance : Mo AllT := ⟨fun _ _ _ _ h => h⟩
theorem allT_map {vs : List V} (h : ∀ y ∈ vs, y = V.bl true) : vs = (List.replicate vs.length true).map V.bl := by
  rw [List.map_replicate]
  exact List.eq_replicate_iff.mpr ⟨rfl, h⟩
theorem e_all (h : Rn T n m F (NL AllT) (ta σ)) : Rn T n m F (Is (.bl true)) (tCB (rAll K) (tCons ta tNil) σ) :=
  e_cb (a_cons h a_nil) fun vs F1 s1 a => fun F2 H2 s2 s3 tn Q r => by
    obtain ⟨_, _, rfl, ⟨p, ys, rfl, hp, b⟩, rfl⟩ := a
    refine ⟨p, List.replicate ys.length true, rfl, ?_, ?_⟩
    · rw [← allT_map b]; exact .inl (.inl (s3 _ _ (s2 _ _ hp)))
    · have e : (List.replicate ys.length true).all id = true := by simp
      rw [e]
      exact r _ F2 H2 (Gr.refl s3) tn rfl
theorem e_sorted {Z : List Int → Prop} (h : Rn T n m F (NL (fun vs _ => ∃ ns : List Int, vs = ns.map V.int ∧ Z ns)) (ta σ)) : Rn T n m F (NL (fun vs _ => ∃ ns ms : List Int, vs = ms.map V.int ∧ Z ns ∧ ms.Perm ns ∧ ms.Pairwise (· ≤ ·))) (tCB (rSortedI K) (tCons ta tNil) σ) := by
  have : Mo (fun (vs : List V) (_ : Hp) => ∃ ns : List Int, vs = ns.map V.int ∧ Z ns) := ⟨fun _ _ _ _ h => h⟩
  exact e_cb (a_cons h a_nil) fun vs F1 s1 a => fun F2 H2 s2 s3 tn Q r => by
    obtain ⟨_, _, rfl, ⟨p, ys, rfl, hp, ns, rfl, z⟩, rfl⟩ := a
    exact ⟨p, ns, rfl, .inl (.inl (s3 _ _ (s2 _ _ hp))), fun ms q pm pw hq => r _ _ _ (Gr.new s3 hq) (tn.keep (Gr.new s3 hq)) ⟨q, _, rfl, upd_same, ns, ms, rfl, z, pm, pw⟩⟩
end
end K22
set_option Elab.async false
set_option linter.all false
set_option maxRecDepth 100000
set_option maxHeartbeats 2000000
namespace K22
open PySem PySem.Spec PyProof.Rows L2 RZ
variable {T : Option Addr} {F F0 F1 F2 H H0 H1 H2 : Hp} {n m l k : Nat}

theorem Tn.ne {t : Tn T n F H} {D : Addr} (hD : H D = none) : T ≠ some D := fun e => by
  obtain ⟨_, x, y, z, h, _⟩ := t D e
  rw [hD] at h; cases h
theorem Tn.write {D : Addr} {o : HO} (t : Tn T n F H) (hT : T ≠ some D) : Tn T n F (upd H D o) := fun a e => by
  obtain ⟨h0, x, y, z, h, h3⟩ := t a e
  have : a ≠ D := fun q => hT (by rw [← q]; exact e)
  exact ⟨h0, x, y, z, by rw [upd_ne this]; exact h, h3⟩
theorem Tn.know {D : Addr} {o : HO} (t : Tn T n F H) (hT : T ≠ some D) : Tn T n (upd F D o) H := fun a e => by
  obtain ⟨h0, x, y, z, h, h3⟩ := t a e
  have : a ≠ D := fun q => hT (by rw [← q]; exact e)
  exact ⟨by rw [upd_ne this]; exact h0, x, y, z, h, h3⟩
theorem Gr.at {a : Addr} {o : HO} (g : Gr T F1 H1 F2 H2) (hT : T ≠ some a) (h : H1 a = some o) : H2 a = some o := g.hh a o hT h

/-! ## what is walked -/
structure Wk (J : It) (F : Hp) (len : Nat) (Y : Nat → V → Hp → Prop) : Prop where
  go : ∀ i F1 H, i < len → Same F F1 → Same F1 H → J.go i H
  stop : ∀ F1 H, Same F F1 → Same F1 H → J.stop len H
  yld : ∀ i F1 H x H', i < len → Same F F1 → Same F1 H → J.yld i H x H' → ∃ F2, Gr none F1 H F2 H' ∧ Y i x F2
section
variable {K : PySem.W.Frag} {σ : L2.St} {ta tb te tl : TE} {t : TA} {x y z v : V}
theorem i_tup {p : Addr} {xs : List V} (h : Rn T n m F (Is (.ref p)) (tl σ)) (hp : F p = some (.tup xs)) : Rn T n m F (fun J F1 => Wk J F1 xs.length (fun i x _ => xs[i]? = some x)) (iTup K tl σ) := fun F1 H1 s1 s2 tn R r =>
  h F1 H1 s1 s2 tn _ fun v F2 H2 g tn2 e => ⟨p, e, ⟨xs, .inl (.inl (g.fh _ _ (g.ff _ _ (s1 _ _ hp))))⟩, r _ F2 H2 g tn2
    ⟨fun i F3 H3 hi s3 s4 => ⟨xs, xs[i], .inl (.inl (s4 _ _ (s3 _ _ (g.ff _ _ (s1 _ _ hp))))), List.getElem?_eq_getElem hi⟩,
     fun F3 H3 s3 s4 => ⟨xs, .inl (.inl (s4 _ _ (s3 _ _ (g.ff _ _ (s1 _ _ hp))))), Nat.le_refl _⟩,
     fun i F3 H3 x H' hi s3 s4 ⟨eH, hx⟩ => ⟨F3, by rw [eH]; exact Gr.refl s4, hx xs (.inl (.inl (s4 _ _ (s3 _ _ (g.ff _ _ (s1 _ _ hp))))))⟩⟩⟩
theorem i_lst {p : Addr} {xs : List V} (h : Rn T n m F (Is (.ref p)) (tl σ)) (hp : F p = some (.lst xs)) : Rn T n m F (fun J F1 => Wk J F1 xs.length (fun i x _ => xs[i]? = some x)) (iList K tl σ) := fun F1 H1 s1 s2 tn R r =>
  h F1 H1 s1 s2 tn _ fun v F2 H2 g tn2 e => ⟨p, e, ⟨xs, .inl (.inl (g.fh _ _ (g.ff _ _ (s1 _ _ hp))))⟩, r _ F2 H2 g tn2
    ⟨fun i F3 H3 hi s3 s4 => ⟨xs, xs[i], .inl (.inl (s4 _ _ (s3 _ _ (g.ff _ _ (s1 _ _ hp))))), List.getElem?_eq_getElem hi⟩,
     fun F3 H3 s3 s4 => ⟨xs, .inl (.inl (s4 _ _ (s3 _ _ (g.ff _ _ (s1 _ _ hp))))), Nat.le_refl _⟩,
     fun i F3 H3 x H' hi s3 s4 ⟨eH, hx⟩ => ⟨F3, by rw [eH]; exact Gr.refl s4, hx xs (.inl (.inl (s4 _ _ (s3 _ _ (g.ff _ _ (s1 _ _ hp))))))⟩⟩⟩
/-- a tuple that is made on the way -/
theorem i_tupN {A : List V → Hp → Prop} {xs : List V} (h : Rn T n m F (NT (Is xs)) (tl σ)) : Rn T n m F (fun J F1 => Wk J F1 xs.length (fun i x _ => xs[i]? = some x)) (iTup K tl σ) := fun F1 H1 s1 s2 tn R r =>
  h F1 H1 s1 s2 tn _ fun v F2 H2 g tn2 ⟨p, us, e, hp, e2⟩ => by
    cases e2
    exact ⟨p, e, ⟨xs, .inl (.inl (g.fh _ _ hp))⟩, r _ F2 H2 g tn2
      ⟨fun i F3 H3 hi s3 s4 => ⟨xs, xs[i], .inl (.inl (s4 _ _ (s3 _ _ hp))), List.getElem?_eq_getElem hi⟩,
       fun F3 H3 s3 s4 => ⟨xs, .inl (.inl (s4 _ _ (s3 _ _ hp))), Nat.le_refl _⟩,
       fun i F3 H3 x H' hi s3 s4 ⟨eH, hx⟩ => ⟨F3, by rw [eH]; exact Gr.refl s4, hx xs (.inl (.inl (s4 _ _ (s3 _ _ hp))))⟩⟩⟩
theorem i_rng {j : Int} (h : Rn T n m F (Is (.int j)) (ta σ)) (hj : 0 ≤ j ∧ j ≤ 1000) : Rn T n m F (fun J F1 => Wk J F1 j.toNat (fun i x _ => x = .int (i : Int))) (iRng1 (tCons ta tNil) σ) := fun F1 H1 s1 s2 tn R r =>
  h F1 H1 s1 s2 tn _ fun v F2 H2 g tn2 e => ⟨j, by rw [e], by omega, by omega, r _ F2 H2 g tn2
    ⟨fun i F3 H3 hi s3 s4 => hi, fun F3 H3 s3 s4 => Nat.le_refl _, fun i F3 H3 x H' hi s3 s4 ⟨eH, hx⟩ => ⟨F3, by rw [eH]; exact Gr.refl s4, by rw [hx, Int.zero_add]⟩⟩⟩
theorem i_rng2 {lo hi : Int} (h : Rn T n m F (Is (.int lo)) (ta σ)) (h2 : Rn T m l F (Is (.int hi)) (tb σ)) (hl : -1000 ≤ lo ∧ lo ≤ 1000 ∧ -1000 ≤ hi ∧ hi ≤ 1000) : Rn T n l F (fun J F1 => Wk J F1 (hi - lo).toNat (fun i x _ => x = .int (lo + (i : Int)))) (iRng2 (tCons ta (tCons tb tNil)) σ) := fun F1 H1 s1 s2 tn R r =>
  h F1 H1 s1 s2 tn _ fun v F2 H2 g tn2 e => h2 F2 H2 (s1.trans g.ff) g.fh tn2 _ fun v2 F3 H3 g3 tn3 e2 => ⟨lo, hi, by rw [e, e2], by omega, r _ F3 H3 (g.trans g3) tn3
    ⟨fun i F3 H3 hi s3 s4 => hi, fun F3 H3 s3 s4 => Nat.le_refl _, fun i F3 H3 x H' hi s3 s4 ⟨eH, hx⟩ => ⟨F3, by rw [eH]; exact Gr.refl s4, hx⟩⟩⟩
/-- zip of two tuples, of two lists: the pairs are new -/
def Pair (x y : V) : V → Hp → Prop := fun v F => ∃ p, v = .ref p ∧ F p = some (.tup [x, y])
theorem nt_of {q : Addr} {ys : List V} (h : Rn T n m F (Is (.ref q)) (ta σ)) (hq : F q = some (.tup ys)) : Rn T n m F (NT (Is ys)) (ta σ) := Rn.post h fun v F1 s e => ⟨q, ys, e, s _ _ hq, rfl⟩
theorem nl_of {q : Addr} {ys : List V} (h : Rn T n m F (Is (.ref q)) (ta σ)) (hq : F q = some (.lst ys)) : Rn T n m F (NL (Is ys)) (ta σ) := Rn.post h fun v F1 s e => ⟨q, ys, e, s _ _ hq, rfl⟩
theorem i_zipT {xs ys : List V} (h : Rn T n m F (NT (Is xs)) (ta σ)) (h2 : Rn T m l F (NT (Is ys)) (tb σ)) :
    Rn T n l F (fun J F1 => Wk J F1 (min xs.length ys.length) (fun i v F2 => ∃ x y, xs[i]? = some x ∧ ys[i]? = some y ∧ Pair x y v F2)) (iZipA K (tCons ta (tCons tb tNil)) σ) := fun F1 H1 s1 s2 tn R r =>
  h F1 H1 s1 s2 tn _ fun v F2 H2 g tn2 ⟨p, xs', e, hp, ex⟩ => h2 F2 H2 (s1.trans g.ff) g.fh tn2 _ fun v2 F3 H3 g3 tn3 ⟨q, ys', e2, hq, ey⟩ => by
    cases ex
    cases ey
    have hp3 : F3 p = some (.tup xs) := g3.ff _ _ hp
    refine ⟨p, q, xs, ys, by rw [e, e2], .inr ⟨.inl (.inl (g3.fh _ _ hp3)), .inl (.inl (g3.fh _ _ hq)), r _ F3 H3 (g.trans g3) tn3 ⟨fun i F4 H4 hi s3 s4 => ?_, fun F4 H4 s3 s4 => ?_, fun i F4 H4 x H' hi s3 s4 hy => ?_⟩⟩⟩
    · have h1 : i < xs.length := by omega
      have h2 : i < ys.length := by omega
      exact ⟨xs, ys, xs[i], ys[i], .inl (.inl (s4 _ _ (s3 _ _ hp3))), .inl (.inl (s4 _ _ (s3 _ _ hq))), List.getElem?_eq_getElem h1, List.getElem?_eq_getElem h2⟩
    · exact ⟨xs, ys, .inl (.inl (s4 _ _ (s3 _ _ hp3))), .inl (.inl (s4 _ _ (s3 _ _ hq))), by omega⟩
    · obtain ⟨t, a, b, rfl, ht, rfl, f1, f2⟩ := hy
      exact ⟨upd F4 t (.tup [a, b]), Gr.new s4 ht, a, b, f1 xs (.inl (.inl (s4 _ _ (s3 _ _ hp3)))), f2 ys (.inl (.inl (s4 _ _ (s3 _ _ hq)))), t, rfl, upd_same⟩
theorem i_zipL {xs ys : List V} (h : Rn T n m F (NL (Is xs)) (ta σ)) (h2 : Rn T m l F (NL (Is ys)) (tb σ)) :
    Rn T n l F (fun J F1 => Wk J F1 (min xs.length ys.length) (fun i v F2 => ∃ x y, xs[i]? = some x ∧ ys[i]? = some y ∧ Pair x y v F2)) (iZipA K (tCons ta (tCons tb tNil)) σ) := fun F1 H1 s1 s2 tn R r =>
  h F1 H1 s1 s2 tn _ fun v F2 H2 g tn2 ⟨p, xs', e, hp, ex⟩ => h2 F2 H2 (s1.trans g.ff) g.fh tn2 _ fun v2 F3 H3 g3 tn3 ⟨q, ys', e2, hq, ey⟩ => by
    cases ex
    cases ey
    have hp3 : F3 p = some (.lst xs) := g3.ff _ _ hp
    refine ⟨p, q, xs, ys, by rw [e, e2], .inl ⟨.inl (.inl (g3.fh _ _ hp3)), .inl (.inl (g3.fh _ _ hq)), r _ F3 H3 (g.trans g3) tn3 ⟨fun i F4 H4 hi s3 s4 => ?_, fun F4 H4 s3 s4 => ?_, fun i F4 H4 x H' hi s3 s4 hy => ?_⟩⟩⟩
    · have h1 : i < xs.length := by omega
      have h2 : i < ys.length := by omega
      exact ⟨xs, ys, xs[i], ys[i], .inl (.inl (s4 _ _ (s3 _ _ hp3))), .inl (.inl (s4 _ _ (s3 _ _ hq))), List.getElem?_eq_getElem h1, List.getElem?_eq_getElem h2⟩
    · exact ⟨xs, ys, .inl (.inl (s4 _ _ (s3 _ _ hp3))), .inl (.inl (s4 _ _ (s3 _ _ hq))), by omega⟩
    · obtain ⟨t, a, b, rfl, ht, rfl, f1, f2⟩ := hy
      exact ⟨upd F4 t (.tup [a, b]), Gr.new s4 ht, a, b, f1 xs (.inl (.inl (s4 _ _ (s3 _ _ hp3)))), f2 ys (.inl (.inl (s4 _ _ (s3 _ _ hq)))), t, rfl, upd_same⟩
end

/-! ## comprehensions -/
section
variable {σ : L2.St} {wi : L2.TI} {g : TG} {tt : TT} {te : TE} {vs : List Nat}
theorem e_lc {len : Nat} {Y : Nat → V → Hp → Prop} {Inv : Nat → List V → Hp → Prop} {c : Nat → Nat} {tau : Nat → L2.St} {b : Nat → Bool} {Pe : Nat → V → Hp → Prop}
    (hi : Rn T n m F (fun J F1 => Wk J F1 len Y) (wi σ)) (hc : m = c 0)
    (im : ∀ i acc F F1, Same F F1 → Inv i acc F → Inv i acc F1)
    (h0 : ∀ F1, Same F F1 → Inv 0 [] F1)
    (hg : ∀ i x F1 H1 (R : L2.St → Hp → Prop), i < len → Same F F1 → Same F1 H1 → Y i x F1 → R (tau i) H1 → g x (wipe σ vs) H1 R)
    (hw : ∀ i, i < len → wipe (tau i) vs = wipe σ vs)
    (ht : ∀ i F1, i < len → Same F F1 → Rn none 0 0 F1 (Is (b i)) (tt (tau i)))
    (he : ∀ i F1, i < len → Same F F1 → b i = true → Rn T (c i) (c (i + 1)) F1 (Pe i) (te (tau i)))
    (hy : ∀ i acc y F1, i < len → Inv i acc F1 → Pe i y F1 → b i = true → Inv (i + 1) (acc ++ [y]) F1)
    (hn : ∀ i acc F1, i < len → Inv i acc F1 → b i = false → Inv (i + 1) acc F1 ∧ c i ≤ c (i + 1))
    (hz : ∀ i acc F1, i < len → Inv i acc F1 → acc.length < 1000) : Rn T n (c len) F (NL (fun vs F1 => Inv len vs F1)) (tLc wi g tt te vs σ) := by
  intro F1 H1 s1 s2 tn Q r
  subst hc
  refine hi F1 H1 s1 s2 tn _ fun J F2 H2 g2 tn2 wk => fun D hD => ?_
  have hT : T ≠ some D := Tn.ne (t := tn2) hD
  have hF2 : F2 D = none := g2.fh.free hD
  have sF2 : Same F F2 := s1.trans g2.ff
  refine ⟨fun i m' H => i + m' = len ∧ ∃ Fi acc, Gr T F2 H2 Fi H ∧ Fi D = none ∧ H D = some (.lst acc) ∧ Inv i acc Fi ∧ Tn T (c i) Fi H, ⟨len, by omega, F2, [], (Gr.refl g2.fh).mut hD hF2, hF2, upd_same, h0 F2 sF2, tn2.write hT⟩, ?_⟩
  rintro i m' H ⟨em, Fi, acc, gr, hFi, hHD, inv, tni⟩
  by_cases hlt : i < len
  · refine .inr ⟨wk.go i Fi H hlt gr.ff gr.fh, _, fun H' h => h, fun x H' y => ?_⟩
    obtain ⟨F', gy, hY⟩ := wk.yld i Fi H x H' hlt gr.ff gr.fh y
    refine hg i x F' H' _ hlt (sF2.trans (gr.ff.trans gy.ff)) gy.fh hY ⟨hw i hlt, ?_⟩
    have tn' : Tn T (c i) F' H' := tni.keep gy
    have d1 : H' D = some (.lst acc) := gy.at (by simp) hHD
    have f1 : F' D = none := gy.hid hFi (by rw [hHD]; intro z; cases z)
    refine ht i F' hlt (sF2.trans (gr.ff.trans gy.ff)) F' H' (Same.refl _) gy.fh tn0 _ fun b' F'' H'' gt _ eb => ?_
    have tn'' : Tn T (c i) F'' H'' := tn'.keep gt
    have d2 : H'' D = some (.lst acc) := gt.at (by simp) d1
    have f2 : F'' D = none := gt.hid f1 (by rw [d1]; intro z; cases z)
    have gall : Gr T F2 H2 F'' H'' := (gr.trans gy.lift).trans gt.lift
    have eb' : b' = b i := eb
    subst eb'
    cases hb : b i with
    | true =>
      show te (tau i) H'' _
      refine he i F'' hlt (sF2.trans gall.ff) hb F'' H'' (Same.refl _) gt.fh tn'' _ fun y F3 H3 g3 tn3 p => ?_
      have d3 : H3 D = some (.lst acc) := g3.at hT d2
      have f3 : F3 D = none := g3.hid f2 (by rw [d2]; intro z; cases z)
      have inv3 : Inv i acc F3 := im i acc Fi F3 ((gy.ff.trans gt.ff).trans g3.ff) inv
      refine ⟨acc, d3, small1000 (Nat.le_of_lt (hz i acc F3 hlt inv3)), m' - 1, by omega, by omega, F3, acc ++ [y], (gall.trans g3).mut hD f3, f3, upd_same, hy i acc y F3 hlt inv3 p hb, tn3.write hT⟩
    | false =>
      have inv2 : Inv i acc F'' := im i acc Fi F'' (gy.ff.trans gt.ff) inv
      obtain ⟨q1, q2⟩ := hn i acc F'' hlt inv2 hb
      exact ⟨m' - 1, by omega, by omega, F'', acc, gall, f2, d2, q1, tn''.le q2⟩
  · have ei : i = len := by omega
    subst ei
    refine .inl ⟨wk.stop Fi H gr.ff gr.fh, r _ (upd Fi D (.lst acc)) H (g2.trans (gr.know hD hFi hHD)) (tni.know hT) ⟨D, acc, rfl, upd_same, im _ acc Fi _ (know_same hFi) inv⟩⟩
/-- one name, over the items of xs, no test -/
theorem e_lcN {xs : List V} {j : Nat} {Inv : Nat → List V → Hp → Prop} {c : Nat → Nat} {Pe : Nat → V → Hp → Prop}
    (hi : Rn T n m F (fun J F1 => Wk J F1 xs.length (fun i x _ => xs[i]? = some x)) (wi σ)) (hc : m = c 0) (hl : xs.length ≤ 999)
    (im : ∀ i acc F F1, Same F F1 → Inv i acc F → Inv i acc F1) (h0 : ∀ F1, Same F F1 → Inv 0 [] F1) (hw : ∀ x, wipe ((wipe σ vs).set j (some x)) vs = wipe σ vs)
    (he : ∀ i x F1, xs[i]? = some x → Same F F1 → Rn T (c i) (c (i + 1)) F1 (Pe i) (te ((wipe σ vs).set j (some x))))
    (hy : ∀ i acc y F1, i < xs.length → acc.length = i → Inv i acc F1 → Pe i y F1 → Inv (i + 1) (acc ++ [y]) F1) :
    Rn T n (c xs.length) F (NL (fun vs F1 => vs.length = xs.length ∧ Inv xs.length vs F1)) (tLc wi (gName j) tYes te vs σ) := by
  refine e_lc (Inv := fun i acc F => acc.length = i ∧ Inv i acc F) (tau := fun i => (wipe σ vs).set j (some (xs.getD i .non))) (b := fun _ => true) (Pe := Pe) hi hc (fun i acc F F1 s h => ⟨h.1, im i acc F F1 s h.2⟩) (fun F1 s => ⟨rfl, h0 F1 s⟩) (fun i x F1 H1 R hlt s1 s2 hx r => ?_) (fun i _ => hw _) (fun i F1 _ _ => t_yes)
    (fun i F1 hlt s _ => he i _ F1 ?_ s) (fun i acc y F1 hlt h p _ => ⟨by rw [List.length_append, h.1]; rfl, hy i acc y F1 hlt h.1 h.2 p⟩) (fun i acc F1 _ _ e => by cases e) (fun i acc F1 hlt h => by omega)
  · have e : xs.getD i .non = x := by rw [List.getD_eq_getElem?_getD, hx]; rfl
    have r' : R ((wipe σ vs).set j (some x)) H1 := by rw [← e]; exact r
    exact r'
  · rw [List.getD_eq_getElem?_getD, List.getElem?_eq_getElem hlt]; rfl
/-- over a range -/
theorem e_lcR {val : Nat → Int} {len : Nat} {j : Nat} {Inv : Nat → List V → Hp → Prop} {c : Nat → Nat} {Pe : Nat → V → Hp → Prop}
    (hi : Rn T n m F (fun J F1 => Wk J F1 len (fun i x _ => x = .int (val i))) (wi σ)) (hc : m = c 0) (hl : len ≤ 999)
    (im : ∀ i acc F F1, Same F F1 → Inv i acc F → Inv i acc F1) (h0 : ∀ F1, Same F F1 → Inv 0 [] F1) (hw : ∀ x, wipe ((wipe σ vs).set j (some x)) vs = wipe σ vs)
    (he : ∀ i F1, i < len → Same F F1 → Rn T (c i) (c (i + 1)) F1 (Pe i) (te ((wipe σ vs).set j (some (.int (val i))))))
    (hy : ∀ i acc y F1, i < len → acc.length = i → Inv i acc F1 → Pe i y F1 → Inv (i + 1) (acc ++ [y]) F1) :
    Rn T n (c len) F (NL (fun vs F1 => vs.length = len ∧ Inv len vs F1)) (tLc wi (gName j) tYes te vs σ) := by
  refine e_lc (Inv := fun i acc F => acc.length = i ∧ Inv i acc F) (tau := fun i => (wipe σ vs).set j (some (.int (val i)))) (b := fun _ => true) (Pe := Pe) hi hc (fun i acc F F1 s h => ⟨h.1, im i acc F F1 s h.2⟩) (fun F1 s => ⟨rfl, h0 F1 s⟩) (fun i x F1 H1 R hlt s1 s2 hx r => ?_) (fun i _ => hw _) (fun i F1 _ _ => t_yes)
    (fun i F1 hlt s _ => he i F1 hlt s) (fun i acc y F1 hlt h p _ => ⟨by rw [List.length_append, h.1]; rfl, hy i acc y F1 hlt h.1 h.2 p⟩) (fun i acc F1 _ _ e => by cases e) (fun i acc F1 hlt h => by omega)
  have hx' : x = .int (val i) := hx
  subst hx'
  exact r
theorem take_snoc {α : Type} {l : List α} {i : Nat} (h : i < l.length) : l.take (i + 1) = l.take i ++ [l[i]] := List.take_succ_eq_append_getElem h
/-- ints to ints -/
theorem e_lcI {ns : List Int} {f : Int → Int} {j : Nat}
    (hi : Rn T n m F (fun J F1 => Wk J F1 (ns.map V.int).length (fun i x _ => (ns.map V.int)[i]? = some x)) (wi σ)) (hl : ns.length ≤ 999) (hw : ∀ x, wipe ((wipe σ vs).set j (some x)) vs = wipe σ vs)
    (he : ∀ a F1, a ∈ ns → Same F F1 → Rn T m m F1 (Is (.int (f a))) (te ((wipe σ vs).set j (some (.int a))))) :
    Rn T n m F (NL (Is ((ns.map f).map V.int))) (tLc wi (gName j) tYes te vs σ) := by
  refine Rn.post (e_lcN (xs := ns.map V.int) (c := fun _ => m) (Inv := fun i acc _ => acc = ((ns.take i).map f).map V.int) (Pe := fun i => Is (.int (f (ns.getD i 0)))) hi rfl (by rw [List.length_map]; exact hl) (fun _ _ _ _ _ h => h) (fun _ _ => rfl) hw (fun i x F1 hx s => ?_) (fun i acc y F1 hlt _ h p => ?_)) fun v F1 _ h => ?_
  · rw [List.getElem?_map] at hx
    obtain ⟨a, ha, rfl⟩ := Option.map_eq_some_iff.mp hx
    have e : ns.getD i 0 = a := by rw [List.getD_eq_getElem?_getD, ha]; rfl
    rw [e]
    exact he a F1 (List.mem_of_getElem? ha) s
  · rw [List.length_map] at hlt
    have e : ns.getD i 0 = ns[i] := by rw [List.getD_eq_getElem?_getD, List.getElem?_eq_getElem hlt]; rfl
    have p' : y = .int (f (ns.getD i 0)) := p
    rw [h, p', e, take_snoc hlt, List.map_append, List.map_append]
    rfl
  · obtain ⟨p, us, e1, e2, _, e3⟩ := h
    refine ⟨p, us, e1, e2, ?_⟩
    rw [List.length_map, List.take_length] at e3
    exact e3
/-- all True -/
theorem e_lcA {xs : List V} {j : Nat}
    (hi : Rn T n m F (fun J F1 => Wk J F1 xs.length (fun i x _ => xs[i]? = some x)) (wi σ)) (hl : xs.length ≤ 999) (hw : ∀ x, wipe ((wipe σ vs).set j (some x)) vs = wipe σ vs)
    (he : ∀ x F1, x ∈ xs → Same F F1 → Rn T m m F1 (Is (.bl true)) (te ((wipe σ vs).set j (some x)))) : Rn T n m F (NL AllT) (tLc wi (gName j) tYes te vs σ) := by
  refine Rn.post (e_lcN (xs := xs) (c := fun _ => m) (Inv := fun i acc F1 => AllT acc F1) (Pe := fun i => Is (.bl true)) hi rfl hl (fun _ _ _ _ _ h => h) (fun _ _ => fun y hy => by cases hy) hw (fun i x F1 hx s => he x F1 (List.mem_of_getElem? hx) s) (fun i acc y F1 hlt _ h p z hz => ?_)) fun v F1 _ h => ?_
  · rcases List.mem_append.mp hz with q | q
    · exact h z q
    · rw [List.mem_singleton.mp q]; exact p
  · obtain ⟨p, us, e1, e2, _, e3⟩ := h
    exact ⟨p, us, e1, e2, e3⟩
theorem e_lcRA {val : Nat → Int} {len : Nat} {j : Nat}
    (hi : Rn T n m F (fun J F1 => Wk J F1 len (fun i x _ => x = .int (val i))) (wi σ)) (hl : len ≤ 999) (hw : ∀ x, wipe ((wipe σ vs).set j (some x)) vs = wipe σ vs)
    (he : ∀ i F1, i < len → Same F F1 → Rn T m m F1 (Is (.bl true)) (te ((wipe σ vs).set j (some (.int (val i)))))) : Rn T n m F (NL AllT) (tLc wi (gName j) tYes te vs σ) := by
  refine Rn.post (e_lcR (val := val) (len := len) (c := fun _ => m) (Inv := fun i acc F1 => AllT acc F1) (Pe := fun i => Is (.bl true)) hi rfl hl (fun _ _ _ _ _ h => h) (fun _ _ => fun y hy => by cases hy) hw he (fun i acc y F1 hlt _ h p z hz => ?_)) fun v F1 _ h => ?_
  · rcases List.mem_append.mp hz with q | q
    · exact h z q
    · rw [List.mem_singleton.mp q]; exact p
  · obtain ⟨p, us, e1, e2, _, e3⟩ := h
    exact ⟨p, us, e1, e2, e3⟩
/-- the items of a tuple of ints that pass a test -/
theorem e_lcF {ns : List Int} {f : Int → Bool} {j : Nat}
    (hi : Rn T n m F (fun J F1 => Wk J F1 (ns.map V.int).length (fun i x _ => (ns.map V.int)[i]? = some x)) (wi σ)) (hl : ns.length ≤ 999) (hw : ∀ x, wipe ((wipe σ vs).set j (some x)) vs = wipe σ vs) (hj : ∀ x, ((wipe σ vs).set j (some x))[j]? = some (some x))
    (ht : ∀ a F1, a ∈ ns → Same F F1 → Rn none 0 0 F1 (Is (f a)) (tt ((wipe σ vs).set j (some (.int a))))) :
    Rn T n m F (NL (Is ((ns.filter f).map V.int))) (tLc wi (gName j) tt (tVar j) vs σ) := by
  refine Rn.post (e_lc (len := ns.length) (c := fun _ => m) (Inv := fun i acc F => acc = ((ns.take i).filter f).map V.int) (tau := fun i => (wipe σ vs).set j (some (.int (ns.getD i 0)))) (b := fun i => f (ns.getD i 0)) (Pe := fun i => Is (.int (ns.getD i 0))) (by rw [List.length_map] at hi; exact hi) rfl (fun _ _ _ _ _ h => h) (fun _ _ => rfl) (fun i x F1 H1 R hlt s1 s2 hx r => ?_) (fun i _ => hw _) (fun i F1 hlt s => ht _ F1 ?_ s)
    (fun i F1 hlt s _ => e_var (hj _)) (fun i acc y F1 hlt h p hb => ?_) (fun i acc F1 hlt h hb => ⟨?_, Nat.le_refl _⟩) (fun i acc F1 hlt h => ?_)) fun v F1 _ h => ?_
  · have hx' : (ns.map V.int)[i]? = some x := hx
    rw [List.getElem?_map] at hx'
    obtain ⟨a, ha, rfl⟩ := Option.map_eq_some_iff.mp hx'
    have e : ns.getD i 0 = a := by rw [List.getD_eq_getElem?_getD, ha]; rfl
    have r' : R ((wipe σ vs).set j (some (.int (ns.getD i 0)))) H1 := r
    rw [e] at r'
    exact r'
  · rw [List.getD_eq_getElem?_getD, List.getElem?_eq_getElem hlt]
    exact List.getElem_mem hlt
  · have e : ns.getD i 0 = ns[i] := by rw [List.getD_eq_getElem?_getD, List.getElem?_eq_getElem hlt]; rfl
    have p' : y = .int (ns.getD i 0) := p
    have hb' : f (ns.getD i 0) = true := hb
    rw [e] at hb' p'
    rw [h, p', take_snoc hlt, List.filter_append, List.map_append, List.filter_cons, if_pos hb']
    rfl
  · have e : ns.getD i 0 = ns[i] := by rw [List.getD_eq_getElem?_getD, List.getElem?_eq_getElem hlt]; rfl
    have hb' : f (ns.getD i 0) = false := hb
    rw [e] at hb'
    rw [h, take_snoc hlt, List.filter_append, List.map_append, List.filter_cons, if_neg (by rw [hb']; decide)]
    show _ = _ ++ []
    rw [List.append_nil]
  · rw [h, List.length_map]
    have := List.length_filter_le f (ns.take i)
    rw [List.length_take] at this
    omega
  · obtain ⟨p, us, e1, e2, e3⟩ := h
    refine ⟨p, us, e1, e2, ?_⟩
    rw [List.take_length] at e3
    exact e3
/-- over pairs, two names -/
theorem g_pair {K : PySem.W.Frag} {i j : Nat} {x y v : V} {σ' : L2.St} {R : L2.St → Hp → Prop} (s : Same F H) (h : Pair x y v F) (r : R ((σ'.set i (some x)).set j (some y)) H) : gTup K 2 (gCons (gName i) (gCons (gName j) gNil)) v σ' H R := by
  obtain ⟨p, rfl, hp⟩ := h
  exact ⟨p, [x, y], rfl, .inl (.inl (s _ _ hp)), rfl, x, [y], rfl, y, [], rfl, rfl, r⟩
theorem e_lcZA {K : PySem.W.Frag} {xs ys : List V} {len i0 j0 : Nat} (hlen : len = min xs.length ys.length)
    (hi : Rn T n m F (fun J F1 => Wk J F1 (min xs.length ys.length) (fun i v F2 => ∃ x y, xs[i]? = some x ∧ ys[i]? = some y ∧ Pair x y v F2)) (wi σ)) (hl : len ≤ 999) (hw : ∀ x y, wipe (((wipe σ vs).set i0 (some x)).set j0 (some y)) vs = wipe σ vs)
    (he : ∀ (i : Nat) x y F1, xs[i]? = some x → ys[i]? = some y → Same F F1 → Rn T m m F1 (Is (.bl true)) (te (((wipe σ vs).set i0 (some x)).set j0 (some y)))) :
    Rn T n m F (NL AllT) (tLc wi (gTup K 2 (gCons (gName i0) (gCons (gName j0) gNil))) tYes te vs σ) := by
  subst hlen
  refine Rn.post (e_lc (len := min xs.length ys.length) (c := fun _ => m) (Inv := fun i acc F => acc.length = i ∧ AllT acc F) (tau := fun i => ((wipe σ vs).set i0 (some (xs.getD i .non))).set j0 (some (ys.getD i .non))) (b := fun i => true) (Pe := fun i => Is (.bl true)) hi rfl (fun _ _ _ _ _ h => h) (fun _ _ => ⟨rfl, fun y hy => by cases hy⟩) (fun i x F1 H1 R hlt s1 s2 hx r => ?_) (fun i _ => hw _ _) (fun i F1 hlt s => t_yes)
    (fun i F1 hlt s _ => he i _ _ F1 ?_ ?_ s) (fun i acc y F1 hlt h p hb => ⟨by rw [List.length_append, h.1]; rfl, fun z hz => ?_⟩) (fun i acc F1 hlt h hb => by cases hb) (fun i acc F1 hlt h => by omega)) fun v F1 _ h => ?_
  · obtain ⟨a, b, h1, h2, hp⟩ := hx
    have e1 : xs.getD i .non = a := by rw [List.getD_eq_getElem?_getD, h1]; rfl
    have e2 : ys.getD i .non = b := by rw [List.getD_eq_getElem?_getD, h2]; rfl
    have r' : R (((wipe σ vs).set i0 (some (xs.getD i .non))).set j0 (some (ys.getD i .non))) H1 := r
    rw [e1, e2] at r'
    exact g_pair s2 hp r'
  · rw [List.getD_eq_getElem?_getD, List.getElem?_eq_getElem (show i < xs.length by omega)]; rfl
  · rw [List.getD_eq_getElem?_getD, List.getElem?_eq_getElem (show i < ys.length by omega)]; rfl
  · rcases List.mem_append.mp hz with q | q
    · exact h.2 z q
    · rw [List.mem_singleton.mp q]; exact p
  · obtain ⟨p, us, e1, e2, _, e3⟩ := h
    exact ⟨p, us, e1, e2, e3⟩
/-- over pairs, none passes the test: an empty list -/
theorem e_lcZ0 {K : PySem.W.Frag} {xs ys : List V} {len i0 j0 : Nat} (hlen : len = min xs.length ys.length)
    (hi : Rn T n m F (fun J F1 => Wk J F1 (min xs.length ys.length) (fun i v F2 => ∃ x y, xs[i]? = some x ∧ ys[i]? = some y ∧ Pair x y v F2)) (wi σ)) (hl : len ≤ 999) (hw : ∀ x y, wipe (((wipe σ vs).set i0 (some x)).set j0 (some y)) vs = wipe σ vs)
    (ht : ∀ (i : Nat) x y F1, xs[i]? = some x → ys[i]? = some y → Same F F1 → Rn none 0 0 F1 (Is false) (tt (((wipe σ vs).set i0 (some x)).set j0 (some y)))) :
    Rn T n m F (NL (Is [])) (tLc wi (gTup K 2 (gCons (gName i0) (gCons (gName j0) gNil))) tt te vs σ) := by
  subst hlen
  refine Rn.post (e_lc (len := min xs.length ys.length) (c := fun _ => m) (Inv := fun i acc F => acc = []) (tau := fun i => ((wipe σ vs).set i0 (some (xs.getD i .non))).set j0 (some (ys.getD i .non))) (b := fun i => false) (Pe := fun i => Is (.bl true)) hi rfl (fun _ _ _ _ _ h => h) (fun _ _ => rfl) (fun i x F1 H1 R hlt s1 s2 hx r => ?_) (fun i _ => hw _ _) (fun i F1 hlt s => ht i _ _ F1 ?_ ?_ s)
    (fun i F1 hlt s e => by cases e) (fun i acc y F1 hlt h p hb => by cases hb) (fun i acc F1 hlt h hb => ⟨h, Nat.le_refl _⟩) (fun i acc F1 hlt h => by rw [h]; decide)) fun v F1 _ h => h
  · obtain ⟨a, b, h1, h2, hp⟩ := hx
    have e1 : xs.getD i .non = a := by rw [List.getD_eq_getElem?_getD, h1]; rfl
    have e2 : ys.getD i .non = b := by rw [List.getD_eq_getElem?_getD, h2]; rfl
    have r' : R (((wipe σ vs).set i0 (some (xs.getD i .non))).set j0 (some (ys.getD i .non))) H1 := r
    rw [e1, e2] at r'
    exact g_pair s2 hp r'
  · rw [List.getD_eq_getElem?_getD, List.getElem?_eq_getElem (show i < xs.length by omega)]; rfl
  · rw [List.getD_eq_getElem?_getD, List.getElem?_eq_getElem (show i < ys.length by omega)]; rfl
end
end K22
set_option Elab.async false
set_option linter.all false
set_option maxRecDepth 100000
set_option maxHeartbeats 2000000
namespace K22
open PySem PySem.Spec PyProof.Rows L2 RZ
variable {T : Option Addr} {F F0 F1 F2 H H0 H1 H2 : Hp} {n m l k : Nat}

/-! ## data -/
inductive Da where
  | i (n : Int)
  | t (xs : List Da)
  | l (xs : List Da)
mutual
def At : Da → V → Hp → Prop
  | .i n => Is (.int n)
  | .t ds => NT (AtL ds)
  | .l ds => NL (AtL ds)
def AtL : List Da → List V → Hp → Prop
  | [] => Is []
  | d :: ds => Cn (At d) (AtL ds)
end
mutual
theorem At.mono : ∀ (d : Da) (v : V) (F F1 : Hp), Same F F1 → At d v F → At d v F1
  | .i n, v, F, F1, s, h => by
    unfold At at h ⊢
    exact h
  | .t ds, v, F, F1, s, h => by
    unfold At at h ⊢
    obtain ⟨p, vs, e, h1, h2⟩ := h
    exact ⟨p, vs, e, s p _ h1, AtL.mono ds vs F F1 s h2⟩
  | .l ds, v, F, F1, s, h => by
    unfold At at h ⊢
    obtain ⟨p, vs, e, h1, h2⟩ := h
    exact ⟨p, vs, e, s p _ h1, AtL.mono ds vs F F1 s h2⟩
theorem AtL.mono : ∀ (ds : List Da) (vs : List V) (F F1 : Hp), Same F F1 → AtL ds vs F → AtL ds vs F1
  | [], vs, F, F1, s, h => by
    unfold AtL at h ⊢
    exact h
  | d :: ds, vs, F, F1, s, h => by
    unfold AtL at h ⊢
    obtain ⟨v, r, e, h1, h2⟩ := h
    exact ⟨v, r, e, At.mono d v F F1 s h1, AtL.mono ds r F F1 s h2⟩
end
instance (d : Da) : Mo (At d) := ⟨At.mono d⟩
instance (ds : List Da) : Mo (AtL ds) := ⟨AtL.mono ds⟩
theorem at_i {n : Int} : At (.i n) = Is (.int n) := by unfold At; rfl
theorem at_t {ds : List Da} : At (.t ds) = NT (AtL ds) := by rw [At]
theorem at_l {ds : List Da} : At (.l ds) = NL (AtL ds) := by rw [At]
theorem atL_nil : AtL [] = Is [] := by rw [AtL]
theorem atL_cons {d : Da} {ds : List Da} : AtL (d :: ds) = Cn (At d) (AtL ds) := by rw [AtL]
theorem AtL.len : ∀ {ds : List Da} {vs : List V} {F : Hp}, AtL ds vs F → vs.length = ds.length
  | [], vs, F, h => by
    rw [atL_nil] at h
    cases h; rfl
  | d :: ds, vs, F, h => by
    rw [atL_cons] at h
    obtain ⟨v, r, rfl, _, h2⟩ := h
    rw [List.length_cons, List.length_cons, AtL.len h2]
theorem AtL.get : ∀ {ds : List Da} {vs : List V} {F : Hp} {i : Nat} {v : V}, AtL ds vs F → vs[i]? = some v → ∃ d, ds[i]? = some d ∧ At d v F
  | [], vs, F, i, v, h, e => by
    rw [atL_nil] at h
    cases h; simp at e
  | d :: ds, vs, F, 0, v, h, e => by
    rw [atL_cons] at h
    obtain ⟨w, r, rfl, h1, h2⟩ := h
    have e' : w = v := by simpa using e
    subst e'
    exact ⟨d, rfl, h1⟩
  | d :: ds, vs, F, i + 1, v, h, e => by
    rw [atL_cons] at h
    obtain ⟨w, r, rfl, h1, h2⟩ := h
    obtain ⟨d', q1, q2⟩ := AtL.get (i := i) (v := v) h2 (by simpa using e)
    exact ⟨d', by simpa using q1, q2⟩
theorem AtL.snoc : ∀ {ds : List Da} {vs : List V} {F : Hp} {d : Da} {v : V}, AtL ds vs F → At d v F → AtL (ds ++ [d]) (vs ++ [v]) F
  | [], vs, F, d, v, h, e => by
    rw [atL_nil] at h
    cases h
    show AtL [d] [v] F
    rw [atL_cons, atL_nil]
    exact ⟨v, [], rfl, e, rfl⟩
  | d' :: ds, vs, F, d, v, h, e => by
    rw [atL_cons] at h
    obtain ⟨w, r, rfl, h1, h2⟩ := h
    show AtL (d' :: (ds ++ [d])) (w :: (r ++ [v])) F
    rw [atL_cons]
    exact ⟨w, _, rfl, h1, AtL.snoc h2 e⟩
theorem AtL.append : ∀ {ds es : List Da} {vs ws : List V} {F : Hp}, AtL ds vs F → AtL es ws F → AtL (ds ++ es) (vs ++ ws) F
  | [], es, vs, ws, F, h, h2 => by
    rw [atL_nil] at h
    cases h
    exact h2
  | d :: ds, es, vs, ws, F, h, h2 => by
    rw [atL_cons] at h
    obtain ⟨w, r, rfl, h1, h3⟩ := h
    show AtL (d :: (ds ++ es)) (w :: (r ++ ws)) F
    rw [atL_cons]
    exact ⟨w, _, rfl, h1, AtL.append h3 h2⟩
theorem atL_ints : ∀ {ns : List Int} {vs : List V} {F : Hp}, AtL (ns.map Da.i) vs F ↔ vs = ns.map V.int
  | [], vs, F => by
    show AtL [] vs F ↔ vs = []
    rw [atL_nil]
    exact Iff.rfl
  | n :: ns, vs, F => by
    show AtL (Da.i n :: ns.map Da.i) vs F ↔ vs = V.int n :: ns.map V.int
    rw [atL_cons, at_i]
    constructor
    · rintro ⟨v, r, rfl, h1, h2⟩
      rw [atL_ints.mp h2]
      have h1' : v = .int n := h1
      rw [h1']
    · intro e
      exact ⟨_, _, e, rfl, atL_ints.mpr rfl⟩
/-- a tuple, a list of ints, as data -/
abbrev dT (ns : List Int) : Da := .t (ns.map Da.i)
abbrev dL (ns : List Int) : Da := .l (ns.map Da.i)
theorem tuI_iff {ns : List Int} {v : V} {F : Hp} : At (dT ns) v F ↔ TuI ns v F := by
  rw [at_t]
  constructor
  · rintro ⟨p, vs, e, h1, h2⟩
    rw [atL_ints.mp h2] at h1
    exact ⟨p, e, h1⟩
  · rintro ⟨p, e, h1⟩
    exact ⟨p, _, e, h1, atL_ints.mpr rfl⟩
theorem lsI_iff {ns : List Int} {v : V} {F : Hp} : At (dL ns) v F ↔ LsI ns v F := by
  rw [at_l]
  constructor
  · rintro ⟨p, vs, e, h1, h2⟩
    rw [atL_ints.mp h2] at h1
    exact ⟨p, e, h1⟩
  · rintro ⟨p, e, h1⟩
    exact ⟨p, _, e, h1, atL_ints.mpr rfl⟩
theorem nt_tuI {ns : List Int} {v : V} {F : Hp} (h : NT (Is (ns.map V.int)) v F) : TuI ns v F := by
  obtain ⟨p, vs, e, h1, h2⟩ := h
  cases h2
  exact ⟨p, e, h1⟩
theorem nl_lsI {ns : List Int} {v : V} {F : Hp} (h : NL (Is (ns.map V.int)) v F) : LsI ns v F := by
  obtain ⟨p, vs, e, h1, h2⟩ := h
  cases h2
  exact ⟨p, e, h1⟩

/-! ## bodies that end by a return -/
def Bd (T : Option Addr) (n m : Nat) (F : Hp) (P : V → Hp → Prop) (σ : L2.St) (ts : TS) : Prop :=
  ∀ F1 H1, Same F F1 → Same F1 H1 → Tn T n F1 H1 → ∀ Q : VK, (∀ v F2 H2, Gr T F1 H1 F2 H2 → Tn T m F2 H2 → P v F2 → Q v H2) → ∀ nx bk ct, ts ⟨nx, Q, bk, ct⟩ σ H1
section
variable {K : PySem.W.Frag} {σ : L2.St} {te ta tb : TE} {tc : TT} {tu tz : TS} {A P : V → Hp → Prop} {b : Bool} {x y z v : V}
theorem Bd.at (h : Bd T n m F P σ tz) (s : Same F F1) : Bd T n m F1 P σ tz := fun F2 H2 s2 => h F2 H2 (s.trans s2)
theorem Bd.post {P' : V → Hp → Prop} (h : Bd T n m F P σ tz) (hp : ∀ v F1, Same F F1 → P v F1 → P' v F1) : Bd T n m F P' σ tz :=
  fun F1 H1 s1 s2 tn Q r => h F1 H1 s1 s2 tn Q fun v F2 H2 g t2 p => r v F2 H2 g t2 (hp v F2 (s1.trans g.ff) p)
theorem b_ret (h : Rn T n m F P (te σ)) : Bd T n m F P σ (tRet te) := fun F1 H1 s1 s2 tn Q r _ _ _ => h F1 H1 s1 s2 tn Q r
theorem b_asg {i : Nat} (h : Rn T n m F A (te σ)) (k : ∀ v F1, Same F F1 → A v F1 → Bd T m l F1 P (σ.set i (some v)) tz) : Bd T n l F P σ (tSeq (tAsg te (gName i)) tz) :=
  fun F1 H1 s1 s2 tn Q r nx bk ct => h F1 H1 s1 s2 tn _ fun v F2 H2 g t2 a => k v F2 (s1.trans g.ff) a F2 H2 (Same.refl _) g.fh t2 Q (fun w F3 H3 g3 t3 p => r w F3 H3 (g.trans g3) t3 p) nx bk ct
theorem b_skip (h : Rn T n m F (Is false) (tc σ)) (k : Bd T m l F P σ tz) : Bd T n l F P σ (tSeq (tIfS tc tu tNext) tz) :=
  fun F1 H1 s1 s2 tn Q r nx bk ct => h F1 H1 s1 s2 tn _ fun v F2 H2 g t2 e => by
    cases e
    exact k F2 H2 (s1.trans g.ff) g.fh t2 Q (fun w F3 H3 g3 t3 p => r w F3 H3 (g.trans g3) t3 p) nx bk ct
/-- an if that returns, else goes on -/
theorem b_ifR (h : Rn T n m F (Is b) (tc σ)) (k1 : b = true → Bd T m l F P σ tu) (k2 : b = false → Bd T m l F P σ tz) : Bd T n l F P σ (tSeq (tIfS tc tu tNext) tz) :=
  fun F1 H1 s1 s2 tn Q r nx bk ct => h F1 H1 s1 s2 tn _ fun v F2 H2 g t2 e => by
    cases e
    cases b with
    | true => exact k1 rfl F2 H2 (s1.trans g.ff) g.fh t2 Q (fun w F3 H3 g3 t3 p => r w F3 H3 (g.trans g3) t3 p) _ bk ct
    | false => exact k2 rfl F2 H2 (s1.trans g.ff) g.fh t2 Q (fun w F3 H3 g3 t3 p => r w F3 H3 (g.trans g3) t3 p) nx bk ct
/-- a, b = e -/
theorem b_two {i j : Nat} {B : V → V → Hp → Prop} (h : Rn T n m F (fun v F1 => ∃ p a b, v = .ref p ∧ F1 p = some (.tup [a, b]) ∧ B a b F1) (te σ)) (k : ∀ a b F1, Same F F1 → B a b F1 → Bd T m l F1 P ((σ.set i (some a)).set j (some b)) tz) :
    Bd T n l F P σ (tSeq (tAsg te (gTup K 2 (gCons (gName i) (gCons (gName j) gNil)))) tz) :=
  fun F1 H1 s1 s2 tn Q r nx bk ct => h F1 H1 s1 s2 tn _ fun v F2 H2 g t2 ⟨p, a, b, e, hp, hb⟩ => by
    subst e
    exact g_pair g.fh ⟨p, rfl, hp⟩ (k a b F2 (s1.trans g.ff) hb F2 H2 (Same.refl _) g.fh t2 Q (fun w F3 H3 g3 t3 p => r w F3 H3 (g.trans g3) t3 p) nx bk ct)
theorem b_three {i j q : Nat} {B : V → V → V → Hp → Prop} (h : Rn T n m F (fun v F1 => ∃ p a b c, v = .ref p ∧ F1 p = some (.tup [a, b, c]) ∧ B a b c F1) (te σ)) (k : ∀ a b c F1, Same F F1 → B a b c F1 → Bd T m l F1 P (((σ.set i (some a)).set j (some b)).set q (some c)) tz) :
    Bd T n l F P σ (tSeq (tAsg te (gTup K 3 (gCons (gName i) (gCons (gName j) (gCons (gName q) gNil))))) tz) :=
  fun F1 H1 s1 s2 tn Q r nx bk ct => h F1 H1 s1 s2 tn _ fun v F2 H2 g t2 ⟨p, a, b, c, e, hp, hb⟩ => by
    subst e
    exact ⟨p, [a, b, c], rfl, .inl (.inl (g.fh _ _ hp)), rfl, a, [b, c], rfl, b, [c], rfl, c, [], rfl, rfl, k a b c F2 (s1.trans g.ff) hb F2 H2 (Same.refl _) g.fh t2 Q (fun w F3 H3 g3 t3 p => r w F3 H3 (g.trans g3) t3 p) nx bk ct⟩
/-- a, b = x, y with plain names -/
theorem b_par {i j : Nat} {t : TA} {A B : V → Hp → Prop} (h : Rn T n m F (Cn A (Cn B (Is []))) (t σ)) (k : ∀ a b F1, Same F F1 → A a F1 → B b F1 → Bd T m l F1 P ((σ.set i (some a)).set j (some b)) tz) : Bd T n l F P σ (tSeq (tPar i j t) tz) :=
  fun F1 H1 s1 s2 tn Q r nx bk ct => h F1 H1 s1 s2 tn _ fun v F2 H2 g t2 ⟨a, _, e, ha, b, _, e2, hb, e3⟩ => by
    cases e3; subst e2; subst e
    exact ⟨a, b, rfl, k a b F2 (s1.trans g.ff) ha hb F2 H2 (Same.refl _) g.fh t2 Q (fun w F3 H3 g3 t3 p => r w F3 H3 (g.trans g3) t3 p) nx bk ct⟩

/-! ## lists: +, *, slices, tuple(..) of a known list -/
theorem e_cat {A B : List V → Hp → Prop} [ma : Mo A] [mb : Mo B] (ha : Rn T n m F (NL A) (ta σ)) (hb : Rn T m l F (NL B) (tb σ)) (hz : ∀ xs ys F1, A xs F1 → B ys F1 → xs.length + ys.length ≤ 1000) :
    Rn T n l F (NL (fun vs F1 => ∃ xs ys, vs = xs ++ ys ∧ A xs F1 ∧ B ys F1)) (tOp rCat ta tb σ) :=
  e_op ha hb fun x y F1 s0 ⟨p, xs, e1, hp, a⟩ ⟨q, ys, e2, hq, b⟩ => fun F2 H2 s2 s3 tn Q r =>
    ⟨p, q, xs, ys, e1, e2, s3 _ _ (s2 _ _ hp), s3 _ _ (s2 _ _ hq), Nat.le_of_lt (small1000 (hz xs ys F1 a b)), fun w hw => r _ _ _ (Gr.new s3 hw) (tn.keep (Gr.new s3 hw))
      ⟨w, xs ++ ys, rfl, upd_same, xs, ys, rfl, ma.mo _ _ _ (s2.trans (Gr.new (T := T) s3 hw).ff) a, mb.mo _ _ _ (s2.trans (Gr.new (T := T) s3 hw).ff) b⟩⟩
theorem e_rep2 {A : V → Hp → Prop} [ma : Mo A] (ha : Rn T n m F (NL (Cn A (Is []))) (ta σ)) (hb : Rn T m l F (Is (.int 2)) (tb σ)) : Rn T n l F (NL (Cn A (Cn A (Is [])))) (tOp rRep ta tb σ) :=
  e_op ha hb fun x y F1 s0 ⟨p, xs, e1, hp, a⟩ e2 => fun F2 H2 s2 s3 tn Q r => by
    obtain ⟨v, _, rfl, av, rfl⟩ := a
    refine ⟨p, 2, [v], e1, e2, s3 _ _ (s2 _ _ hp), by decide, by decide, (by show 1 * 2 ≤ sizeLine; decide), fun w hw => r _ _ _ (Gr.new s3 hw) (tn.keep (Gr.new s3 hw)) ?_⟩
    have av' := ma.mo _ _ _ (s2.trans (know_same (o := .lst (List.replicate (Int.toNat 2) [v]).flatten) (s3.free hw))) av
    exact ⟨w, [v, v], rfl, upd_same, v, [v], rfl, av', v, [], rfl, av', rfl⟩
theorem e_tupK {p : Addr} {xs : List V} (h : Rn T n m F (Is (.ref p)) (ta σ)) (hp : F p = some (.lst xs)) : Rn T n m F (NT (Is xs)) (tCB (rTupO K) (tCons ta tNil) σ) :=
  e_cb (a_cons h a_nil) fun vs F1 s1 a => fun F2 H2 s2 s3 tn Q r => by
    obtain ⟨_, _, rfl, rfl, rfl⟩ := a
    exact ⟨p, xs, rfl, .inl ⟨.inl (.inl (s3 _ _ (s2 _ _ (s1 _ _ hp)))), fun l hl => r _ _ _ (Gr.new s3 hl) (tn.keep (Gr.new s3 hl)) ⟨l, xs, rfl, upd_same, rfl⟩⟩⟩
/-- t[1:] of a tuple that is not empty -/
theorem from_one (n : Nat) : HT.sIx n 0 (some 1) = min 1 n := HT.sIx_nat n 0 1
theorem cutV_tail (xs : List V) : cutV xs (some 1) none = xs.drop 1 := by
  have e : cutV xs (some 1) none = (xs.drop (min 1 xs.length)).take (xs.length - min 1 xs.length) := by
    unfold cutV
    rw [from_one, HT.sIx_none]
  rw [e]
  match xs with
  | [] => rfl
  | x :: r =>
    have h1 : min 1 (x :: r).length = 1 := by simp
    have h2 : (x :: r).length - 1 = r.length := rfl
    rw [h1, h2]
    exact List.take_length
theorem e_tail {p : Addr} {xs : List V} (h : Rn T n m F (Is (.ref p)) (ta σ)) (hp : F p = some (.tup xs)) (hne : xs ≠ []) : Rn T n m F (NT (Is (xs.drop 1))) (tSl (rSlT K) ta (tPart (tC (.int 1))) tNoPart σ) := fun F1 H1 s1 s2 tn Q r =>
  h F1 H1 s1 s2 tn _ fun v F2 H2 g tn2 e => by
    refine ⟨1, rfl, p, xs, e, .inl (.inl (g.fh _ _ (g.ff _ _ (s1 _ _ hp)))), ?_, fun w hw => ?_⟩
    · rintro ⟨q, _⟩
      rw [from_one] at q
      cases xs with
      | nil => exact hne rfl
      | cons a r => rw [List.length_cons] at q; omega
    · rw [cutV_tail]
      exact r _ _ _ (g.trans (Gr.new g.fh hw)) (tn2.keep (Gr.new g.fh hw)) ⟨w, _, rfl, upd_same, rfl⟩
end

/-! ## a local list that grows -/
theorem w_app {K : PySem.W.Frag} {σ : L2.St} {te : TE} {P : V → Hp → Prop} {i : Nat} {a : Addr} {xs : List V} {nx bk ct : L2.St → Hp → Prop} {Q : VK} (g : Gr T F0 H0 F H) (tn : Tn T n F H) (hl : H a = some (.lst xs)) (hf : F a = none) (h0 : H0 a = none) (hT : T ≠ some a)
    (hv : σ[i]? = some (some (.ref a))) (he : Rn T n m F P (te σ)) (hz : xs.length < 1000)
    (k : ∀ v F1 H1, Gr T F0 H0 F1 H1 → Same F F1 → F1 a = none → Tn T m F1 H1 → P v F1 → H1 a = some (.lst (xs ++ [v])) → nx σ H1) :
    tDrop (tBM K "list" rAppend (tVar i) (tCons te tNil)) ⟨nx, Q, bk, ct⟩ σ H := by
  refine ⟨_, hv, .inl ⟨rfl, xs, .inl (.inl hl)⟩, ?_⟩
  refine he F H (Same.refl _) g.fh tn _ fun v F1 H1 g1 tn1 p => ?_
  have d1 : H1 a = some (.lst xs) := g1.at hT hl
  have f1 : F1 a = none := g1.hid hf (by rw [hl]; intro z; cases z)
  exact ⟨a, xs, v, rfl, rfl, d1, small1000 (Nat.le_of_lt hz), k v F1 _ ((g.trans g1).mut h0 f1) g1.ff f1 (tn1.write hT) p upd_same⟩
end K22
set_option Elab.async false
set_option linter.all false
set_option maxRecDepth 100000
set_option maxHeartbeats 4000000
namespace K22
open PySem PySem.Spec PyProof.Rows L2 RZ HT
/-! two rules of my own: a pair read backwards, t[::-1]; a def called by keywords alone -/
section
variable {A : Around} {prog : Program} {s : Shared} {w : World} {E : Value → Shared → Prop} {t sl : Addr} {x y vs : Value}
theorem rev_ends (n : Nat) : Builtin.Slice.sliceAdjust none none (-1) (n : Int) = ((n : Int) - 1, -1) := by simp [Builtin.Slice.sliceAdjust]
theorem rev_many (n : Nat) : Builtin.Slice.slicePlaces ((n : Int) - 1) (-1) (-1) = n := by
  have h1 : -(-1 : Int) = 1 := by decide
  simp only [Builtin.Slice.slicePlaces, h1, Int.ediv_one]
  rw [if_neg (by decide)]
  by_cases c : (n : Int) - 1 > -1
  · rw [if_pos c]; omega
  · rw [if_neg c]; omega
/-- where a walk backwards over n items begins, its step, how many it meets -/
theorem applied_rev {n : Nat} {Q : Int × Int × Nat → Shared → Prop} (hs : s.heap.IsSliceOf sl .none .none vs) (ps : IsPart vs (some (-1))) (h : Q ((n : Int) - 1, -1, n) s) :
    wpAny (model prog w) A (Builtin.Slice.sliceApplied (.ref sl) (pure (n : Int))) Q E s := by
  rcases id hs with ⟨oo, at0, _, at1⟩
  have fields : ∀ R : Value × Value × Value → Shared → Prop, R (.none, .none, vs) s → wpAny (model prog w) A (Builtin.Slice.sliceFields (.ref sl)) R E s := fun R r => by
    unfold Builtin.Slice.sliceFields
    exact wpAny_field at0 at1 (x := .none) rfl |> fun z => wpAny_bind (z (wpAny_bind (wpAny_field at0 at1 (x := .none) rfl (wpAny_bind (wpAny_field at0 at1 (x := vs) rfl (wpAny_pure r))))))
  unfold Builtin.Slice.sliceApplied
  refine wpAny_bind (fields _ (wpAny_bind (slicePart_ ps ?_)))
  show wpAny _ _ (if ((-1 : Int) == 0) = true then _ else _) _ _ _
  rw [if_neg (by decide)]
  refine wpAny_bind (slicePart_none (wpAny_bind (slicePart_none (wpAny_bind (wpAny_pure ?_)))))
  show wpAny _ _ (match Builtin.Slice.sliceAdjust none none (-1) (n : Int) with | (a, b) => pure (a, (-1 : Int), Builtin.Slice.slicePlaces a b (-1))) _ _ _
  rw [rev_ends n]
  refine wpAny_pure ?_
  show Q ((n : Int) - 1, (-1 : Int), Builtin.Slice.slicePlaces ((n : Int) - 1) (-1) (-1)) s
  rw [rev_many n]
  exact h
theorem getItem_pair_rev {Q : Value → Shared → Prop} (ht : IsTup s.heap t #[x, y]) (hs : s.heap.IsSliceOf sl .none .none vs) (ps : IsPart vs (some (-1)))
    (h : Q (.ref s.heap.objs.size) { s with heap := s.heap.push { cls := .type "tuple", data := .seq #[y, x] } }) : wpAny (model prog w) A (getItem (.ref t) (.ref sl)) Q E s := by
  have isSl : s.TypeIs (.ref sl) "slice" := let ⟨oo, at0, c, _⟩ := id hs; ⟨oo, at0, c⟩
  have room : sizeOk (.seq (#[y, x] : Array Value)) := by show 2 ≤ sizeLine; decide
  have part : ((List.range 2).filterMap fun (m : Nat) => (#[x, y] : Array Value)[((((2 : Nat) : Int) - 1) + (m : Int) * (-1)).toNat]?).toArray = #[y, x] := rfl
  have other : ¬ ((((2 : Nat) : Int) - 1 == 0 && (-1 : Int) == 1 && 2 == (#[x, y] : Array Value).size) = true) := by simp
  unfold getItem
  refine wpAny_holding (wpAny_bind (wpAny_sequenceKey ht.typeIs (by decide) (wpAny_bind (wpAny_callSpecial?_slot (name := Str.ofString "__getitem__") ht.typeIs PyProof.Rows.slot_tuple_getitem (wpAny_call_entry PyProof.Rows.slot_tuple_getitem ht.typeIs entry_tuple_getitem ?_ (args_tuple_getitem _ _))))))
  refine wpAny_bind (m := Builtin.Tuple.tupleItemsOf (.ref t)) (tupleItemsOf_ ht (wpAny_bind (wpAny_typeOf isSl ?_)))
  rw [if_pos (by decide)]
  refine wpAny_bind (applied_rev (n := 2) hs ps ?_)
  show wpAny _ _ (if (((2 : Nat) : Int) - 1 == 0 && (-1 : Int) == 1 && 2 == (#[x, y] : Array Value).size) = true then _ else _) _ _ _
  rw [if_neg other, part]
  exact wpAny_bind (m := Builtin.Tuple.tupleExact _) (wpAny_newObj_type (wpAny_pure (Exists.intro _ (And.intro rfl (wpAny_pure h)))) room)
end
section
variable {X : Cx}
/-- what t[::-1] of a pair asks -/
def tRevT (K : PySem.W.Frag) (te : TE) : TE := fun σ H Q => te σ H fun v G => ∃ a b c, v = .ref a ∧ SqT K G a [b, c] ∧ ∀ p, G p = none → Q (.ref p) (upd G p (.tup [c, b]))
theorem po_back {k : Nat} {p1 p2 : Pos} : PO X (some (.UnaryOp .USub (.Constant (.int 1) k p1) p2)) (tPart (tUn (rU fun i => .int (-i)) (tC (.int 1)))) :=
  po_some (pe_un un_neg pe_int)
theorem two_of {b c : V} {us : List Value} (r : Vals [b, c] us) : ∃ u1 u2, us = [u1, u2] ∧ RelV b u1 ∧ RelV c u2 := match us, r with
  | [u1, u2], .cons r1 (.cons r2 .nil) => ⟨u1, u2, rfl, r1, r2⟩
theorem pe_revT {e : Expr} {te : TE} {k : Nat} {p1 p2 p3 pos : Pos} (he : PE X e te) : PE X (.Subscript e (.Slice none none (some (.UnaryOp .USub (.Constant (.int 1) k p1) p2)) p3) pos) (tRevT X.K te) := by
  constructor
  intro pn a0 σ G0 Q inv0 hq
  refine Subscript_ (thn (he.run pn a0 σ G0 _ inv0 hq) ?_)
  rintro v a1 ⟨x, G1, inv1, rx, a, b, c, rfl, hx, k1⟩
  cases rx
  refine wpAny_Slice (thn (po_none.run pn a1 σ G1 (fun o G => o = none ∧ G = G1) inv1 ⟨rfl, rfl⟩) ?_)
  rintro v2 a2 ⟨o2, G2, inv2, lo, e2, rfl⟩
  subst e2
  refine thn (po_none.run pn a2 σ G2 (fun o G => o = none ∧ G = G2) inv2 ⟨rfl, rfl⟩) ?_
  rintro v3 a3 ⟨o3, G3, inv3, hi, e3, rfl⟩
  subst e3
  refine thn (po_back.run pn a3 σ G3 (fun o G => o = some (-1) ∧ G = G3) inv3 ⟨1, rfl, -1, rfl, rfl, rfl⟩) ?_
  rintro v4 a4 ⟨o4, G4, inv4, st, e4, rfl⟩
  subst e4
  cases lo; cases hi
  have inv5 := inv4.kept (t' := a4.toks) (h' := a4.heap.push { cls := .type "slice", data := .fields #[.none, .none, v4] }) fun _ _ z => Heap.get?_push_of_some _ z
  obtain ⟨us, ru, isT, _⟩ := inv5.tuple hx
  obtain ⟨u1, u2, rfl, r1, r2⟩ := two_of ru
  refine tail_any (s := { a4 with heap := a4.heap.push { cls := .type "slice", data := .fields #[.none, .none, v4] } }) (ops := [.ref a, .ref a4.heap.objs.size]) isT.typeIs PyProof.Rows.slot_tuple_getitem.lookup ?_ (by with_unfolding_all rfl)
  refine getItem_pair_rev isT (Heap.IsSliceOf.new _ .none .none v4) st ?_
  refine ⟨.ref _, upd G4 _ (.tup [c, b]), inv5.laid (t' := a4.toks) (fun _ _ z => Heap.get?_push_of_some _ z) (Nat.le_refl _) ?_, rfl, k1 _ (inv5.hok.fresh (Nat.le_refl _))⟩
  exact ⟨(by decide : 2 ≤ sizeLine), [u2, u1], .cons r2 (.cons r1 .nil), IsTup.new _ _⟩
/-- f(k = v, ..): keywords alone, how they bind -/
structure KB0 (K : PySem.W.Frag) (fd : FuncData) (ps ks : List Str) (g : List Value → List Value) (gV : List V → List V) : Prop where
  to : ∀ (s : Shared) (ws : List Value), ws.length = ks.length → BindsTo s fd ⟨[], ks.zip ws⟩ (ps.zip (g ws))
  rel : ∀ {zs : List V} {ws : List Value}, zs.length = ks.length → Vals zs ws → Vals (gV zs) (g ws)
def tCallK0 (sp : Sp) (ks : List Str) (gV : List V → List V) (E : XK) (tk : TA) : TE := fun σ H Q => tk σ H fun zs G => zs.length = ks.length ∧ sp (gV zs) G Q E
theorem pe_callK0 {CX : CXT} {lev : Nat} {f : Addr} {fd : FuncData} {ps ks : List Str} {sp : Sp} {E : XK} {x : Str} {p pos : Pos} {kl : List Keyword} {tk : TA} {g : List Value → List Value} {gV : List V → List V} (F : FnOk X.prog X.w X.K X.mg X.base CX lev f fd ps sp) (hr : Room lev X.A) (hg : Gl X x)
    (hm : X.mg x = some (.ref f)) (hk : PySem.W.keepIn X.K (.ref f) = true) (hb : KB0 X.K fd ps ks g gV) (hx : Passes CX X E) (hkw : PK X kl tk) (named : (backToKw pos (keywordEach kl X.env)).all (·.1.isSome) = true := by rfl) (names : (backToKw pos (keywordEach kl X.env)).filterMap (·.1) = ks := by rfl)
    (plain : ((backTo pos (starEach [] X.env)).any (·.1) || (backToKw pos (keywordEach kl X.env)).any (·.1.isNone)) = false := by rfl) (hdb : (x == ("__debug__" : Str)) = false := by decide) : PE X (.Call (.Name x p) [] kl pos) (tCallK0 sp ks gV E tk) := by
  constructor
  intro pn a0 σ G0 Q inv0 hq
  refine wpAny_Call_Name_kw (ld_glob inv0 hg hm (PySem.W.callWith_KW0 (h₀ := X.base) inv0.ok.mod.kin hk named (thn (hkw.run pos pn a0 σ G0 _ inv0 hq) ?_) plain) hdb)
  rintro ws a1 ⟨zs, G1, inv1, rz, hl, k1⟩
  refine ⟨inv1.kIn, ?_⟩
  rw [names]
  have binds := hb.to a1 ws (rz.length ▸ hl)
  refine wpAny_call (codeAny_mono (F.run X.A X.stack a1 G1 ⟨[], ks.zip ws⟩ (g ws) (gV zs) Q E hr inv1.env0 binds (hb.rel hl rz) k1) ?_)
  intro res a2 done
  rcases res with err | fl
  · exact hx pn σ _ _ err a2 inv1 done
  · cases fl with
    | ret u => exact inv1.after done
    | next => exact done.elim
    | brk => exact done.elim
    | cont => exact done.elim
end
end K22
set_option Elab.async false
set_option linter.all false
set_option maxRecDepth 100000
set_option maxHeartbeats 2000000
namespace K22
open PySem PySem.Spec PyProof.Rows L2 RZ
variable {T : Option Addr} {F F0 F1 F2 H H0 H1 H2 : Hp} {n m l k : Nat}
/-! ## one list in hand: what it holds is told to the expressions, and it may be written -/
theorem Gr.drop {F' : Hp} (s : Same F H) (g : Gr none F' H F2 H2) : Gr T F H F H2 := ⟨Same.refl _, fun a o _ e => g.hh a o (by simp) e, fun a o e => g.hh a o (by simp) (s a o e), fun a e => .inl e, g.st⟩
theorem same_know {a : Addr} {o : HO} (s : Same F H) (ha : H a = some o) : Same (upd F a o) H := fun b x e => by
  by_cases hb : b = a
  · subst hb; rw [upd_same] at e; cases e; exact ha
  · rw [upd_ne hb] at e; exact s b x e
/-- writing a thing that was not there at the beginning, or that may be written -/
theorem Gr.put {p : Addr} {o : HO} (g : Gr T F1 H1 F2 H2) (hn : H1 p = none ∨ T = some p) (hf : F2 p = none) : Gr T F1 H1 F2 (upd H2 p o) := by
  refine ⟨g.ff, fun b x ht e => ?_, fun b x e => ?_, g.nw, fun b e => ?_⟩
  · have hb : b ≠ p := fun q => by
      subst q
      rcases hn with z | z
      · rw [z] at e; cases e
      · exact ht z
    rw [upd_ne hb]; exact g.hh b x ht e
  · rw [upd_ne (ne_of_none e hf)]; exact g.fh b x e
  · by_cases hb : b = p
    · subst hb; rw [upd_same]; intro z; cases z
    · rw [upd_ne hb]; exact g.st b e
section
variable {σ : L2.St} {te to ti : TE} {tc : TT} {tu tz : TS} {D : Ends} {v : V} {xs : List V} {a : Addr} {b : Bool}
theorem x_asg {i : Nat} (sF : Same F H) (ha : H a = some (.lst xs)) (he : Rn none 0 0 (upd F a (.lst xs)) (Is v) (te σ)) (k : ∀ H1, Gr none F H F H1 → H1 a = some (.lst xs) → tz D (σ.set i (some v)) H1) : tSeq (tAsg te (gName i)) tz D σ H :=
  he _ H (Same.refl _) (same_know sF ha) tn0 _ fun v' F2 H2 g _ e => by
    cases e
    exact k H2 (Gr.drop sF g) (g.at (by simp) ha)
theorem x_ret (sF : Same F H) (ha : H a = some (.lst xs)) (he : Rn none 0 0 (upd F a (.lst xs)) (Is v) (te σ)) (k : ∀ H1, Gr none F H F H1 → H1 a = some (.lst xs) → D.rt v H1) : tRet te D σ H :=
  he _ H (Same.refl _) (same_know sF ha) tn0 _ fun v' F2 H2 g _ e => by
    cases e
    exact k H2 (Gr.drop sF g) (g.at (by simp) ha)
theorem x_if (sF : Same F H) (ha : H a = some (.lst xs)) (he : Rn none 0 0 (upd F a (.lst xs)) (Is b) (tc σ)) (k1 : b = true → ∀ H1, Gr none F H F H1 → H1 a = some (.lst xs) → tu { D with nx := tz D } σ H1) (k2 : b = false → ∀ H1, Gr none F H F H1 → H1 a = some (.lst xs) → tz D σ H1) : tSeq (tIfS tc tu tNext) tz D σ H :=
  he _ H (Same.refl _) (same_know sF ha) tn0 _ fun v' F2 H2 g _ e => by
    cases e
    cases b with
    | true => exact k1 rfl H2 (Gr.drop sF g) (g.at (by simp) ha)
    | false => exact k2 rfl H2 (Gr.drop sF g) (g.at (by simp) ha)
theorem x_sub1 {j : Int} {m : Nat} (sF : Same F H) (ha : H a = some (.lst xs)) (he : Rn none 0 0 (upd F a (.lst xs)) (Is v) (te σ)) (ho : Rn none 0 0 (upd F a (.lst xs)) (Is (.ref a)) (to σ)) (hi : Rn none 0 0 (upd F a (.lst xs)) (Is (.int j)) (ti σ)) (hj : ixN xs.length j = some m)
    (k : ∀ H1, Gr none F H F H1 → H1 a = some (.lst xs) → D.nx σ (upd H1 a (.lst (xs.set m v)))) : tAsg te (gSub to ti rSetL) D σ H :=
  he _ H (Same.refl _) (same_know sF ha) tn0 _ fun v' F2 H2 g _ e => ho F2 H2 g.ff g.fh tn0 _ fun v2 F3 H3 g3 _ e2 => hi F3 H3 (g.ff.trans g3.ff) g3.fh tn0 _ fun v3 F4 H4 g4 _ e3 => by
    cases e; cases e2; cases e3
    have gg := (g.trans g3).trans g4
    exact ⟨a, xs, j, m, rfl, rfl, gg.at (by simp) ha, hj, k H4 (Gr.drop sF gg) (gg.at (by simp) ha)⟩
theorem x_sub {j : Int} {m : Nat} (sF : Same F H) (ha : H a = some (.lst xs)) (he : Rn none 0 0 (upd F a (.lst xs)) (Is v) (te σ)) (ho : Rn none 0 0 (upd F a (.lst xs)) (Is (.ref a)) (to σ)) (hi : Rn none 0 0 (upd F a (.lst xs)) (Is (.int j)) (ti σ)) (hj : ixN xs.length j = some m)
    (k : ∀ H1, Gr none F H F H1 → H1 a = some (.lst xs) → tz D σ (upd H1 a (.lst (xs.set m v)))) : tSeq (tAsg te (gSub to ti rSetL)) tz D σ H :=
  x_sub1 (D := { D with nx := tz D }) sF ha he ho hi hj k
end
theorem Gr.dropT {F' : Hp} (s : Same F H) (ht : ∀ t, T = some t → F t = none) (g : Gr T F' H F2 H2) : Gr T F H F H2 := ⟨Same.refl _, g.hh, fun a o e => g.hh a o (fun z => by rw [ht a z] at e; cases e) (s a o e), fun a e => .inl e, g.st⟩
theorem x_forR {σ : L2.St} {ta : TE} {tu : TS} {D : Ends} {j : Nat} {c : Int} (sF : Same F H) (he : Rn none 0 0 F (Is (.int c)) (ta σ)) (hc : 0 ≤ c ∧ c ≤ 1000) (Pv : Nat → L2.St → Hp → Prop) (h0 : ∀ H1, Gr none F H F H1 → Pv 0 σ H1)
    (hs : ∀ (i : Nat) σ' H', (i : Int) < c → Pv i σ' H' → tu { D with nx := Pv (i + 1), ct := Pv (i + 1), bk := D.nx } (σ'.set j (some (.int (i : Int)))) H') (hd : ∀ σ' H', Pv c.toNat σ' H' → D.nx σ' H') : tFor (iRng1 (tCons ta tNil)) (gName j) tu D σ H :=
  he F H (Same.refl _) sF tn0 _ fun v F2 H2 g _ e => ⟨c, by rw [e], by omega, by omega, for_range (lo := 0) (n := c.toNat) Pv (h0 H2 (Gr.drop sF g)) (fun i σ' H' hi p => by
    rw [Int.zero_add]
    exact hs i σ' H' (by omega) p) hd⟩
theorem x_forR2 {σ : L2.St} {ta tb : TE} {tu : TS} {D : Ends} {j : Nat} {lo c : Int} (sF : Same F H) (he : Rn none 0 0 F (Is (.int lo)) (ta σ)) (he2 : Rn none 0 0 F (Is (.int c)) (tb σ)) (hc : -1000 ≤ lo ∧ lo ≤ 1000 ∧ -1000 ≤ c ∧ c ≤ 1000) (Pv : Nat → L2.St → Hp → Prop) (h0 : ∀ H1, Gr none F H F H1 → Pv 0 σ H1)
    (hs : ∀ (i : Nat) σ' H', lo + (i : Int) < c → Pv i σ' H' → tu { D with nx := Pv (i + 1), ct := Pv (i + 1), bk := D.nx } (σ'.set j (some (.int (lo + (i : Int))))) H') (hd : ∀ σ' H', Pv (c - lo).toNat σ' H' → D.nx σ' H') : tFor (iRng2 (tCons ta (tCons tb tNil))) (gName j) tu D σ H :=
  he F H (Same.refl _) sF tn0 _ fun v F2 H2 g _ e => he2 F2 H2 g.ff g.fh tn0 _ fun v2 F3 H3 g3 _ e2 => ⟨lo, c, by rw [e, e2], ⟨by omega, by omega, by omega, by omega⟩, for_range (lo := lo) (n := (c - lo).toNat) Pv (h0 H3 (Gr.drop sF (g.trans g3))) (fun i σ' H' hi p => hs i σ' H' (by omega) p) hd⟩
theorem q_forR {σ : L2.St} {ta : TE} {tu tz : TS} {D : Ends} {j : Nat} {c : Int} (sF : Same F H) (he : Rn none 0 0 F (Is (.int c)) (ta σ)) (hc : 0 ≤ c ∧ c ≤ 1000) (Pv : Nat → L2.St → Hp → Prop) (h0 : ∀ H1, Gr none F H F H1 → Pv 0 σ H1)
    (hs : ∀ (i : Nat) σ' H', (i : Int) < c → Pv i σ' H' → tu { D with nx := Pv (i + 1), ct := Pv (i + 1), bk := tz D } (σ'.set j (some (.int (i : Int)))) H') (hd : ∀ σ' H', Pv c.toNat σ' H' → tz D σ' H') : tSeq (tFor (iRng1 (tCons ta tNil)) (gName j) tu) tz D σ H :=
  x_forR (D := { D with nx := tz D }) sF he hc Pv h0 hs hd
theorem q_forR2 {σ : L2.St} {ta tb : TE} {tu tz : TS} {D : Ends} {j : Nat} {lo c : Int} (sF : Same F H) (he : Rn none 0 0 F (Is (.int lo)) (ta σ)) (he2 : Rn none 0 0 F (Is (.int c)) (tb σ)) (hc : -1000 ≤ lo ∧ lo ≤ 1000 ∧ -1000 ≤ c ∧ c ≤ 1000) (Pv : Nat → L2.St → Hp → Prop) (h0 : ∀ H1, Gr none F H F H1 → Pv 0 σ H1)
    (hs : ∀ (i : Nat) σ' H', lo + (i : Int) < c → Pv i σ' H' → tu { D with nx := Pv (i + 1), ct := Pv (i + 1), bk := tz D } (σ'.set j (some (.int (lo + (i : Int))))) H') (hd : ∀ σ' H', Pv (c - lo).toNat σ' H' → tz D σ' H') : tSeq (tFor (iRng2 (tCons ta (tCons tb tNil))) (gName j) tu) tz D σ H :=
  x_forR2 (D := { D with nx := tz D }) sF he he2 hc Pv h0 hs hd
theorem y_asg1 {σ : L2.St} {te : TE} {D : Ends} {i : Nat} {P : V → Hp → Prop} (sF : Same F H) (tn : Tn T n F H) (he : Rn T n m F P (te σ)) (k : ∀ v F1 H1, Gr T F H F1 H1 → Tn T m F1 H1 → P v F1 → D.nx (σ.set i (some v)) H1) : tAsg te (gName i) D σ H :=
  he F H (Same.refl _) sF tn _ fun v F1 H1 g t p => k v F1 H1 g t p
theorem ixN_in {n : Nat} {i : Int} (h0 : 0 ≤ i) (h1 : i < (n : Int)) : ixN n i = some i.toNat := by
  unfold ixN
  rw [if_pos h0, if_pos h1]
theorem y_asg {σ : L2.St} {te : TE} {tz : TS} {D : Ends} {i : Nat} {P : V → Hp → Prop} (sF : Same F H) (tn : Tn T n F H) (he : Rn T n m F P (te σ)) (k : ∀ v F1 H1, Gr T F H F1 H1 → Tn T m F1 H1 → P v F1 → tz D (σ.set i (some v)) H1) : tSeq (tAsg te (gName i)) tz D σ H :=
  he F H (Same.refl _) sF tn _ fun v F1 H1 g t p => k v F1 H1 g t p
theorem y_ret {σ : L2.St} {te : TE} {D : Ends} {P : V → Hp → Prop} (sF : Same F H) (tn : Tn T n F H) (he : Rn T n m F P (te σ)) (k : ∀ v F1 H1, Gr T F H F1 H1 → Tn T m F1 H1 → P v F1 → D.rt v H1) : tRet te D σ H :=
  he F H (Same.refl _) sF tn _ fun v F1 H1 g t p => k v F1 H1 g t p
theorem y_retL {σ : L2.St} {t : TA} {D : Ends} {B : List V → Hp → Prop} (sF : Same F H) (tn : Tn T n F H) (h : Rn T n m F B (t σ)) (hl : ∀ vs F1, B vs F1 → vs.length ≤ 1000)
    (k : ∀ vs F1 H1 p, Gr T F H F1 H1 → Tn T m F1 H1 → B vs F1 → H1 p = none → D.rt (.ref p) (upd H1 p (.lst vs))) : tRet (tLst t) D σ H :=
  h F H (Same.refl _) sF tn _ fun vs F1 H1 g t2 b => ⟨Nat.le_of_lt (small1000 (hl vs F1 b)), fun p hp => k vs F1 H1 p g t2 b hp⟩
/-! ## some number, whatever it is -/
def NI : V → Hp → Prop := fun v _ => ∃ i : Int, v = .int i
def NB : V → Hp → Prop := fun v _ => ∃ b : Bool, v = .bl b
def N01 : V → Hp → Prop := fun v _ => ∃ i : Int, v = .int i ∧ -2 < i ∧ i < 2
instance : Mo NI := ⟨fun _ _ _ _ h => h⟩
instance : Mo NB := ⟨fun _ _ _ _ h => h⟩
instance : Mo N01 := ⟨fun _ _ _ _ h => h⟩
section
variable {σ : L2.St} {ta tb : TE} {i j : Int} {g : Int → Int → Int}
theorem n_is (h : Rn T n m F (Is (.int i)) (ta σ)) : Rn T n m F NI (ta σ) := Rn.post h fun v _ _ e => ⟨i, e⟩
theorem n_c : Rn T n n F NI (tC (.int i) σ) := n_is e_c
theorem n_op0 (ha : Rn T n m F NI (ta σ)) (hb : Rn T m l F NI (tb σ)) : Rn T n l F NI (tOp (rI0 fun i j => .int (g i j)) ta tb σ) :=
  e_op ha hb fun x y F1 _ ⟨i, a⟩ ⟨j, b⟩ => fun F2 H2 s1 s2 tn Q r => ⟨i, j, a, b, r _ F2 H2 (Gr.refl s2) tn ⟨_, rfl⟩⟩
theorem n_op {C : Int → Int → Prop} (ha : Rn T n m F NI (ta σ)) (hb : Rn T m l F (Is (.int j)) (tb σ)) (hc : ∀ i, C i j) : Rn T n l F NI (tOp (rI C fun i j => .int (g i j)) ta tb σ) :=
  e_op ha hb fun x y F1 _ ⟨i, a⟩ b => fun F2 H2 s1 s2 tn Q r => ⟨i, j, a, b, hc i, r _ F2 H2 (Gr.refl s2) tn ⟨_, rfl⟩⟩
theorem n_opL {C : Int → Int → Prop} (ha : Rn T n m F (Is (.int i)) (ta σ)) (hb : Rn T m l F NI (tb σ)) (hc : ∀ j, C i j) : Rn T n l F NI (tOp (rI C fun i j => .int (g i j)) ta tb σ) :=
  e_op ha hb fun x y F1 _ a ⟨j, b⟩ => fun F2 H2 s1 s2 tn Q r => ⟨i, j, a, b, hc j, r _ F2 H2 (Gr.refl s2) tn ⟨_, rfl⟩⟩
theorem n_op2 {C : Int → Int → Prop} (ha : Rn T n m F (Is (.int i)) (ta σ)) (hb : Rn T m l F (Is (.int j)) (tb σ)) (hc : C i j) : Rn T n l F NI (tOp (rI C fun i j => .int (g i j)) ta tb σ) :=
  e_op ha hb fun x y F1 _ a b => fun F2 H2 s1 s2 tn Q r => ⟨i, j, a, b, hc, r _ F2 H2 (Gr.refl s2) tn ⟨_, rfl⟩⟩
theorem n_mulB (ha : Rn T n m F NI (ta σ)) (hb : Rn T m l F N01 (tb σ)) : Rn T n l F NI (tOp (rI CMul fun i j => .int (g i j)) ta tb σ) :=
  e_op ha hb fun x y F1 _ ⟨i, a⟩ ⟨j, b, h1, h2⟩ => fun F2 H2 s1 s2 tn Q r => ⟨i, j, a, b, .inr ⟨by omega, by omega⟩, r _ F2 H2 (Gr.refl s2) tn ⟨_, rfl⟩⟩
theorem n_ge (ha : Rn T n m F NI (ta σ)) (hb : Rn T m l F NI (tb σ)) {g : Int → Int → Bool} : Rn T n l F NB (tOp (rI0 fun i j => .bl (g i j)) ta tb σ) :=
  e_op ha hb fun x y F1 _ ⟨i, a⟩ ⟨j, b⟩ => fun F2 H2 s1 s2 tn Q r => ⟨i, j, a, b, r _ F2 H2 (Gr.refl s2) tn ⟨_, rfl⟩⟩
theorem n_abs (h : Rn T n m F NI (ta σ)) : Rn T n m F NI (tCB rAbs (tCons ta tNil) σ) :=
  e_cb (a_cons h a_nil) fun vs F1 s1 a => fun F2 H2 s2 s3 tn Q r => by
    obtain ⟨_, _, rfl, ⟨i, rfl⟩, rfl⟩ := a
    exact ⟨i, rfl, r _ F2 H2 (Gr.refl s3) tn ⟨_, rfl⟩⟩
theorem n_i1 (h : Rn T n m F NI (ta σ)) : Rn T n m F NI (tCB rInt1 (tCons ta tNil) σ) :=
  e_cb (a_cons h a_nil) fun vs F1 s1 a => fun F2 H2 s2 s3 tn Q r => by
    obtain ⟨_, _, rfl, ⟨i, rfl⟩, rfl⟩ := a
    exact .inl ⟨i, rfl, r _ F2 H2 (Gr.refl s3) tn ⟨_, rfl⟩⟩
theorem n_i1b (h : Rn T n m F NB (ta σ)) : Rn T n m F N01 (tCB rInt1 (tCons ta tNil) σ) :=
  e_cb (a_cons h a_nil) fun vs F1 s1 a => fun F2 H2 s2 s3 tn Q r => by
    obtain ⟨_, _, rfl, ⟨b, rfl⟩, rfl⟩ := a
    exact .inr ⟨b, rfl, r _ F2 H2 (Gr.refl s3) tn ⟨_, rfl, by cases b <;> decide, by cases b <;> decide⟩⟩
end
/-! ## comprehensions over a range, ints -/
theorem e_lcRI {σ : L2.St} {wi : L2.TI} {te : TE} {vs : List Nat} {f : Nat → Int} {val : Nat → Int} {len j : Nat}
    (hi : Rn T n m F (fun J F1 => Wk J F1 len (fun i x _ => x = .int (val i))) (wi σ)) (hl : len ≤ 999) (hw : ∀ x, wipe ((wipe σ vs).set j (some x)) vs = wipe σ vs)
    (he : ∀ i F1, i < len → Same F F1 → Rn T m m F1 (Is (.int (f i))) (te ((wipe σ vs).set j (some (.int (val i)))))) : Rn T n m F (NL (Is (((List.range len).map f).map V.int))) (tLc wi (gName j) tYes te vs σ) := by
  refine Rn.post (e_lcR (val := val) (len := len) (c := fun _ => m) (Inv := fun i acc _ => acc = ((List.range i).map f).map V.int) (Pe := fun i => Is (.int (f i))) hi rfl hl (fun _ _ _ _ _ h => h) (fun _ _ => rfl) hw he (fun i acc y F1 hlt _ h p => ?_)) fun v F1 _ h => ?_
  · have p' : y = .int (f i) := p
    rw [h, p', List.range_succ, List.map_append, List.map_append]
    rfl
  · obtain ⟨p, us, e1, e2, _, e3⟩ := h
    exact ⟨p, us, e1, e2, e3⟩
end K22
set_option Elab.async false
set_option linter.all false
set_option maxRecDepth 100000
set_option maxHeartbeats 4000000
namespace K22
open PySem PySem.Spec PyProof.Rows L2 RZ
/-! ## the text: its defs by their places, their names by slots -/
def topS (i : Nat) : Stmt := PySem.Challenge.pw_bothwheels_k22_whole_seen_twice_is_seen.main.body.getD i (.Pass ⟨0, 0, 0, 0⟩)
abbrev sisnumber : Stmt := topS 3
abbrev Nisnumber : List Str := ["thing"]
theorem scisnumber : FnScope Nisnumber ["thing"] (defScope sisnumber) := ⟨rfl, rfl, rfl, by decide +kernel, rfl, by decide +kernel, by decide +kernel⟩
abbrev sisfrom : Stmt := topS 4
abbrev Nisfrom : List Str := ["thing", "least"]
theorem scisfrom : FnScope Nisfrom ["thing", "least"] (defScope sisfrom) := ⟨rfl, rfl, rfl, by decide +kernel, rfl, by decide +kernel, by decide +kernel⟩
abbrev stupled : Stmt := topS 5
abbrev Ntupled : List Str := ["value", "own"]
theorem sctupled : FnScope Ntupled ["value"] (defScope stupled) := ⟨rfl, rfl, rfl, by decide +kernel, rfl, by decide +kernel, by decide +kernel⟩
abbrev sascends : Stmt := topS 6
abbrev Nascends : List Str := ["row", "k"]
theorem scascends : FnScope Nascends ["row"] (defScope sascends) := ⟨rfl, rfl, rfl, by decide +kernel, rfl, by decide +kernel, by decide +kernel⟩
abbrev sarenumbers : Stmt := topS 7
abbrev Narenumbers : List Str := ["thing", "own"]
theorem scarenumbers : FnScope Narenumbers ["thing"] (defScope sarenumbers) := ⟨rfl, rfl, rfl, by decide +kernel, rfl, by decide +kernel, by decide +kernel⟩
abbrev siswheel : Stmt := topS 9
abbrev Niswheel : List Str := ["thing", "own", "near", "far"]
theorem sciswheel : FnScope Niswheel ["thing"] (defScope siswheel) := ⟨rfl, rfl, rfl, by decide +kernel, rfl, by decide +kernel, by decide +kernel⟩
abbrev ssurewheel : Stmt := topS 10
abbrev Nsurewheel : List Str := ["wheel", "own"]
theorem scsurewheel : FnScope Nsurewheel ["wheel"] (defScope ssurewheel) := ⟨rfl, rfl, rfl, by decide +kernel, rfl, by decide +kernel, by decide +kernel⟩
abbrev sistrain : Stmt := topS 11
abbrev Nistrain : List Str := ["thing", "own"]
theorem scistrain : FnScope Nistrain ["thing"] (defScope sistrain) := ⟨rfl, rfl, rfl, by decide +kernel, rfl, by decide +kernel, by decide +kernel⟩
abbrev ssuretrain : Stmt := topS 12
abbrev Nsuretrain : List Str := ["train", "own"]
theorem scsuretrain : FnScope Nsuretrain ["train"] (defScope ssuretrain) := ⟨rfl, rfl, rfl, by decide +kernel, rfl, by decide +kernel, by decide +kernel⟩
abbrev sisplacesin : Stmt := topS 14
abbrev Nisplacesin : List Str := ["ring", "thing"]
theorem scisplacesin : FnScope Nisplacesin ["ring", "thing"] (defScope sisplacesin) := ⟨rfl, rfl, rfl, by decide +kernel, rfl, by decide +kernel, by decide +kernel⟩
abbrev ssureplaces : Stmt := topS 15
abbrev Nsureplaces : List Str := ["places", "ring", "own"]
theorem scsureplaces : FnScope Nsureplaces ["places", "ring"] (defScope ssureplaces) := ⟨rfl, rfl, rfl, by decide +kernel, rfl, by decide +kernel, by decide +kernel⟩
abbrev saheadin : Stmt := topS 16
abbrev Naheadin : List Str := ["places", "ring", "number", "round_first", "own"]
theorem scaheadin : FnScope Naheadin ["places", "ring", "number"] (defScope saheadin) := ⟨rfl, rfl, rfl, by decide +kernel, rfl, by decide +kernel, by decide +kernel⟩
abbrev sseenin : Stmt := topS 18
abbrev Nseenin : List Str := ["wheel", "places", "own"]
theorem scseenin : FnScope Nseenin ["wheel", "places"] (defScope sseenin) := ⟨rfl, rfl, rfl, by decide +kernel, rfl, by decide +kernel, by decide +kernel⟩
abbrev sstrictlyin : Stmt := topS 19
abbrev Nstrictlyin : List Str := ["wheel", "places", "own"]
theorem scstrictlyin : FnScope Nstrictlyin ["wheel", "places"] (defScope sstrictlyin) := ⟨rfl, rfl, rfl, by decide +kernel, rfl, by decide +kernel, by decide +kernel⟩
abbrev sbothsure : Stmt := topS 20
abbrev Nbothsure : List Str := ["wheel", "places", "own"]
theorem scbothsure : FnScope Nbothsure ["wheel", "places"] (defScope sbothsure) := ⟨rfl, rfl, rfl, by decide +kernel, rfl, by decide +kernel, by decide +kernel⟩
abbrev sseen : Stmt := topS 21
abbrev Nseen : List Str := ["wheel", "places", "own", "some"]
theorem scseen : FnScope Nseen ["wheel", "places"] (defScope sseen) := ⟨rfl, rfl, rfl, by decide +kernel, rfl, by decide +kernel, by decide +kernel⟩
abbrev sstrictlyseen : Stmt := topS 22
abbrev Nstrictlyseen : List Str := ["wheel", "places", "own", "some"]
theorem scstrictlyseen : FnScope Nstrictlyseen ["wheel", "places"] (defScope sstrictlyseen) := ⟨rfl, rfl, rfl, by decide +kernel, rfl, by decide +kernel, by decide +kernel⟩
abbrev sallseen : Stmt := topS 23
abbrev Nallseen : List Str := ["train", "places", "own", "some", "wheel"]
theorem scallseen : FnScope Nallseen ["train", "places"] (defScope sallseen) := ⟨rfl, rfl, rfl, by decide +kernel, rfl, by decide +kernel, by decide +kernel⟩
abbrev splaceswithin : Stmt := topS 24
abbrev Nplaceswithin : List Str := ["places", "ring", "numbers", "some", "number"]
theorem scplaceswithin : FnScope Nplaceswithin ["places", "ring", "numbers"] (defScope splaceswithin) := ⟨rfl, rfl, rfl, by decide +kernel, rfl, by decide +kernel, by decide +kernel⟩
abbrev sLbox : Stmt := topS 26
abbrev NLbox : List Str := ["_law_script", "_law_k", "_law_bit_so"]
theorem scLbox : FnScope NLbox ["_law_script", "_law_k"] (defScope sLbox) := ⟨rfl, rfl, rfl, by decide +kernel, rfl, by decide +kernel, by decide +kernel⟩
abbrev sLtake : Stmt := topS 27
abbrev NLtake : List Str := ["_law_tin", "_law_below_so", "_law_drawn", "_law_once_so", "_law_wide_so", "_law_twice_so"]
theorem scLtake : FnScope NLtake ["_law_tin", "_law_below_so"] (defScope sLtake) := ⟨rfl, rfl, rfl, by decide +kernel, rfl, by decide +kernel, by decide +kernel⟩
abbrev sLcells : Stmt := topS 28
abbrev NLcells : List Str := ["_law_script", "_law_most_so", "_law_cells_so", "_law_k", "_law_bit_so", "_law_at_so"]
theorem scLcells : FnScope NLcells ["_law_script", "_law_most_so"] (defScope sLcells) := ⟨rfl, rfl, rfl, by decide +kernel, rfl, by decide +kernel, by decide +kernel⟩
abbrev sLpick : Stmt := topS 29
abbrev NLpick : List Str := ["_law_tin", "_law_goods_so", "_law_count_so", "_law_pool_so", "_law_found", "_law_lap"]
theorem scLpick : FnScope NLpick ["_law_tin", "_law_goods_so", "_law_count_so"] (defScope sLpick) := ⟨rfl, rfl, rfl, by decide +kernel, rfl, by decide +kernel, by decide +kernel⟩
abbrev sLlists : Stmt := topS 30
abbrev NLlists : List Str := ["_law_matter", "_law_bit"]
theorem scLlists : FnScope NLlists ["_law_matter"] (defScope sLlists) := ⟨rfl, rfl, rfl, by decide +kernel, rfl, by decide +kernel, by decide +kernel⟩
abbrev sLsame : Stmt := topS 31
abbrev NLsame : List Str := ["_law_got", "_law_due", "_law_mine", "_law_its"]
theorem scLsame : FnScope NLsame ["_law_got", "_law_due"] (defScope sLsame) := ⟨rfl, rfl, rfl, by decide +kernel, rfl, by decide +kernel, by decide +kernel⟩
abbrev sLled : Stmt := topS 32
abbrev NLled : List Str := ["_law_disk_here", "_law_z"]
theorem scLled : FnScope NLled ["_law_disk_here", "_law_z"] (defScope sLled) := ⟨rfl, rfl, rfl, by decide +kernel, rfl, by decide +kernel, by decide +kernel⟩
abbrev sLshift : Stmt := topS 33
abbrev NLshift : List Str := ["_law_ring_so", "_law_m", "_law_k"]
theorem scLshift : FnScope NLshift ["_law_ring_so", "_law_m"] (defScope sLshift) := ⟨rfl, rfl, rfl, by decide +kernel, rfl, by decide +kernel, by decide +kernel⟩
abbrev sLput : Stmt := topS 34
abbrev NLput : List Str := ["_law_disks", "_law_found", "_law_z", "_law_own"]
theorem scLput : FnScope NLput ["_law_disks"] (defScope sLput) := ⟨rfl, rfl, rfl, by decide +kernel, rfl, by decide +kernel, by decide +kernel⟩
abbrev sLnameahead : Stmt := topS 35
abbrev NLnameahead : List Str := ["_law_spots_so", "_law_ring_so", "_law_z", "_law_strict_so", "_law_many_so", "_law_rest_so", "_law_under_so", "_law_own"]
theorem scLnameahead : FnScope NLnameahead ["_law_spots_so", "_law_ring_so", "_law_z", "_law_strict_so"] (defScope sLnameahead) := ⟨rfl, rfl, rfl, by decide +kernel, rfl, by decide +kernel, by decide +kernel⟩
abbrev sLseen : Stmt := topS 36
abbrev NLseen : List Str := ["_law_disk_here", "_law_spots_so", "_law_strict_so", "_law_found", "_law_i"]
theorem scLseen : FnScope NLseen ["_law_disk_here", "_law_spots_so", "_law_strict_so"] (defScope sLseen) := ⟨rfl, rfl, rfl, by decide +kernel, rfl, by decide +kernel, by decide +kernel⟩
abbrev sLdisk : Stmt := topS 37
abbrev NLdisk : List Str := ["_law_tin", "_law_ring_so", "_law_start_so", "_law_kind_so", "_law_disk_here", "_law_k", "_law_j", "_law_own", "_law_wide_so", "_law_lap"]
theorem scLdisk : FnScope NLdisk ["_law_tin", "_law_ring_so"] (defScope sLdisk) := ⟨rfl, rfl, rfl, by decide +kernel, rfl, by decide +kernel, by decide +kernel⟩
abbrev sLspots : Stmt := topS 38
abbrev NLspots : List Str := ["_law_tin", "_law_ring_so"]
theorem scLspots : FnScope NLspots ["_law_tin", "_law_ring_so"] (defScope sLspots) := ⟨rfl, rfl, rfl, by decide +kernel, rfl, by decide +kernel, by decide +kernel⟩
abbrev sLbyhandright : Stmt := topS 39
abbrev NLbyhandright : List Str := ["_law_disk_here", "_law_some_so", "_law_got", "_law_due"]
theorem scLbyhandright : FnScope NLbyhandright [] (defScope sLbyhandright) := ⟨rfl, rfl, rfl, by decide +kernel, rfl, by decide +kernel, by decide +kernel⟩
abbrev sLright : Stmt := topS 40
abbrev NLright : List Str := ["_law_tin", "_law_ring_so", "_law_disk_here", "_law_other", "_law_spots_so", "_law_few_so", "_law_least_so", "_law_own", "_law_got", "_law_once_so", "_law_strict_so", "_law_due", "_law_both_so", "_law_told", "_law_pair_so", "_law_one_so", "_law_two_so"]
theorem scLright : FnScope NLright ["_law_tin"] (defScope sLright) := ⟨rfl, rfl, rfl, by decide +kernel, rfl, by decide +kernel, by decide +kernel⟩
abbrev slaw : Stmt := topS 41
abbrev Nlaw : List Str := ["_law_script", "_law_cells_so", "_law_k"]
theorem sclaw : FnScope Nlaw ["_law_script"] (defScope slaw) := ⟨rfl, rfl, rfl, by decide +kernel, rfl, by decide +kernel, by decide +kernel⟩
/-! ## built-ins -/
theorem bt_len : bootBuiltins "len" = some (.builtin "len") := by decide +kernel
theorem bt_isinstance : bootBuiltins "isinstance" = some (.builtin "isinstance") := by decide +kernel
theorem bt_all : bootBuiltins "all" = some (.builtin "all") := by decide +kernel
theorem bt_abs : bootBuiltins "abs" = some (.builtin "abs") := by decide +kernel
theorem bt_min : bootBuiltins "min" = some (.builtin "min") := by decide +kernel
theorem bt_max : bootBuiltins "max" = some (.builtin "max") := by decide +kernel
theorem bt_sorted : bootBuiltins "sorted" = some (.builtin "sorted") := by decide +kernel
theorem bt_int : bootBuiltins "int" = some (.type "int") := by decide +kernel
theorem bt_bool : bootBuiltins "bool" = some (.type "bool") := by decide +kernel
theorem bt_str : bootBuiltins "str" = some (.type "str") := by decide +kernel
theorem bt_list : bootBuiltins "list" = some (.type "list") := by decide +kernel
theorem bt_tuple : bootBuiltins "tuple" = some (.type "tuple") := by decide +kernel
structure Bt (mg : Str → Option Value) : Prop where
  len : mg "len" = none
  isinstance : mg "isinstance" = none
  all : mg "all" = none
  abs : mg "abs" = none
  min : mg "min" = none
  max : mg "max" = none
  sorted : mg "sorted" = none
  int : mg "int" = none
  bool : mg "bool" = none
  str : mg "str" = none
  list : mg "list" = none
  tuple : mg "tuple" = none
  range : mg "range" = none
  zip : mg "zip" = none
  enumerate : mg "enumerate" = none
section
variable {X : Cx}
theorem cl_len : CallR X (.builtin "len") (rLen X.K) := call_len_seq
theorem clen_K {K : PySem.W.Frag} (h : X.K = K) : CallR X (.builtin "len") (rLen K) := h ▸ call_len_seq
theorem ixT_K {K : PySem.W.Frag} (h : X.K = K) : IxR X (rIxT K) := h ▸ ix_tup
theorem ixL_K {K : PySem.W.Frag} (h : X.K = K) : IxR X (rIxL K) := h ▸ ix_list
theorem pg_tupK {K : PySem.W.Frag} {es : List Expr} {k : Nat} {t : TGs} {n : Nat} {pos : Pos} (hK : X.K = K) (hc : X.calm = true) (h : PGs X es t)
    (hn : (assignEach es X.env).length = n := by rfl) (hst : (assignEach es X.env).findIdx? (·.1) = none := by rfl) : PG X (.Tuple es k pos) (gTup K n t) := hK ▸ pg_tup hc h hn hst
theorem cl_tup : CallR X (.type "tuple") (rTupO X.K) := call_tuple_of
theorem cl_lst : CallR X (.type "list") (rLstO X.K) := call_list_of
theorem cl_int : CallR X (.type "int") rInt1 := call_int1
theorem cl_abs : CallR X (.builtin "abs") rAbs := call_abs
theorem cl_min (hc : X.calm = true) : CallR X (.builtin "min") rMin := call_min2 hc
theorem cl_max (hc : X.calm = true) : CallR X (.builtin "max") rMax := call_max2 hc
end
/-- a def that may be called -/
structure Cl (P : Program) (w : World) (K : PySem.W.Frag) (mg : Str → Option Value) (base : Heap) (name : Str) (k : Nat) (ps : List Str) (sp : Sp) (f : Addr) (fd : FuncData) : Prop where
  (G : FnOk P w K mg base CX0 k f fd ps sp) (g : mg name = some (.ref f)) (kp : PySem.W.keepIn K (.ref f) = true) (b : Binds K fd ps [])
theorem fin_pure {F H : Hp} {P : V → Hp → Prop} {σ : L2.St} {t : TS} {Q : VK} {nx bk ct : L2.St → Hp → Prop} (h : Bd none 0 0 F P σ t) (sF : Same F H) (q : ∀ v F2 H2, Gr none F H F2 H2 → P v F2 → Q v H2) : t ⟨nx, Q, bk, ct⟩ σ H :=
  h F H (Same.refl _) sF tn0 Q (fun v F2 H2 g _ p => q v F2 H2 g p) nx bk ct
theorem fin_tin {F H : Hp} {t0 : Addr} {n m : Nat} {P : V → Hp → Prop} {σ : L2.St} {t : TS} {Q : VK} {nx bk ct : L2.St → Hp → Prop} (h : Bd (some t0) n m F P σ t) (sF : Same F H) (tn : Tn (some t0) n F H) (q : ∀ v F2 H2, Gr (some t0) F H F2 H2 → Tn (some t0) m F2 H2 → P v F2 → Q v H2) : t ⟨nx, Q, bk, ct⟩ σ H :=
  h F H (Same.refl _) sF tn Q q nx bk ct
end K22
set_option Elab.async false
set_option linter.all false
set_option maxRecDepth 100000
set_option maxHeartbeats 4000000
namespace K22
open PySem PySem.Spec PyProof.Rows L2 RZ
section
variable {P : Program} {w : World} {K : PySem.W.Frag} {mg : Str → Option Value} {base : Heap} {f f1 f2 f3 f4 : Addr} {fd fd1 fd2 fd3 fd4 : FuncData}
/-! ## numbers -/
def RisNumber : List V → Hp → (V → Hp → Prop) → Prop := fun vs _ P => ∃ i : Int, vs = [.int i] ∧ P = Is (.bl true)
theorem ok_isnumber (F : Fun K "is_number" "is_number" sisnumber f fd) (B : Bt mg) : FnOk P w K mg base CX0 1 f fd ["thing"] (mkSp RisNumber) := by
  refine F.ok scisnumber (fun vs H Q E h => ?_) (fun cdv A outer s H vs Q E hr h => ?_)
  · obtain ⟨_, _, _, ⟨i, rfl, _⟩, _⟩ := h; rfl
  obtain ⟨F0, P0, sF, ⟨i, rfl, rfl⟩, q⟩ := h
  refine ⟨_, (pss_one (ps_ret (pe_and (pe_callB call_isi (by rfl) B.isinstance bt_isinstance (pa_cons (pv 0) (pa_cons (pe_bltn (v := .ty "int") (by rfl) B.int bt_int rfl) pa_nil))) (pe_one (pe_not (pe_callB call_isi (by rfl) B.isinstance bt_isinstance (pa_cons (pv 0) (pa_cons (pe_bltn (v := .ty "bool") (by rfl) B.bool bt_bool rfl) pa_nil)))))))), ?_⟩
  exact fin_pure (b_ret (v_and (e_isi (e_var rfl) (fun _ _ => ty_int) kII) fun _ => v_not (e_isi (e_var rfl) (fun _ _ => ty_int) kIB))) sF q
def RisFrom : List V → Hp → (V → Hp → Prop) → Prop := fun vs _ P => ∃ i j : Int, vs = [.int i, .int j] ∧ j ≤ i ∧ P = Is (.bl true)
theorem ok_isfrom (F : Fun K "is_from" "is_from" sisfrom f fd) (B : Bt mg) (cisnumber : Cl P w K mg base "is_number" 1 ["thing"] (mkSp RisNumber) f1 fd1) : FnOk P w K mg base CX0 2 f fd ["thing", "least"] (mkSp RisFrom) := by
  refine F.ok scisfrom (fun vs H Q E h => ?_) (fun cdv A outer s H vs Q E hr h => ?_)
  · obtain ⟨_, _, _, ⟨i, j, rfl, _⟩, _⟩ := h; rfl
  obtain ⟨F0, P0, sF, ⟨i, j, rfl, hij, rfl⟩, q⟩ := h
  refine ⟨_, (pss_one (ps_ret (pe_and (pe_call cisnumber.G (hr.mono (by omega)) (by rfl) cisnumber.g cisnumber.kp cisnumber.b .nil pass0 (pa_cons (pv 0) pa_nil)) (pe_one (pe_cmpR op_ge (pv 0) (pv 1) (nomark _)))))), ?_⟩
  refine fin_pure (b_ret (e_to (v_and (b := true) (c := decide (j ≤ i)) (e_call (a_cons (e_var rfl) a_nil) fun vs F1 s1 a => ?_) fun _ => e_int0 (e_var rfl) (e_var rfl)) ?_)) sF q
  · obtain ⟨_, _, rfl, rfl, rfl⟩ := a
    exact ⟨i, rfl, rfl⟩
  · rw [decide_eq_true hij]; rfl
/-! ## items by their places -/
theorem atI_ga {ns : List Int} {i : Int} (h0 : 0 ≤ i) (h1 : i < (ns.length : Int)) : atI (ns.map V.int) i = some (.int (ga ns i)) := by
  have e : i = ((i.toNat : Nat) : Int) := by omega
  rw [e]
  refine atI_nat ?_
  have h : i.toNat < ns.length := by omega
  rw [List.getElem?_map, List.getElem?_eq_getElem h]
  unfold ga
  rw [List.getD_eq_getElem?_getD]
  show _ = some (V.int ((ns[(((i.toNat : Nat) : Int)).toNat]?).getD 0))
  rw [Int.toNat_natCast, List.getElem?_eq_getElem h]
  rfl
theorem atI_end {ns : List Int} (h : 0 < ns.length) : atI (ns.map V.int) (-1) = some (.int (ns.getD (ns.length - 1) 0)) := by
  obtain ⟨ms, a, rfl⟩ : ∃ ms a, ns = ms ++ [a] := ⟨ns.dropLast, ns.getLast (by intro e; rw [e] at h; cases h), (List.dropLast_concat_getLast _).symm⟩
  rw [List.map_append]
  have e : (ms ++ [a]).getD ((ms ++ [a]).length - 1) 0 = a := by
    rw [List.getD_eq_getElem?_getD, List.length_append]
    simp
  rw [e]
  exact atI_last _ _
/-! ## tuples in the place of lists -/
mutual
def tuA : Da → Da
  | .i n => .i n
  | .t ds => .t (tuL ds)
  | .l ds => .t (tuL ds)
def tuL : List Da → List Da
  | [] => []
  | d :: ds => tuA d :: tuL ds
end
theorem tuL_map : ∀ ds : List Da, tuL ds = ds.map tuA
  | [] => by rw [tuL]; rfl
  | d :: ds => by rw [tuL, tuL_map ds]; rfl
theorem tuA_ints (ns : List Int) : tuL (ns.map Da.i) = ns.map Da.i := by
  rw [tuL_map, List.map_map]
  exact List.map_congr_left fun n _ => by show tuA (.i n) = .i n; rw [tuA]
def fit : Nat → Da → Prop
  | _, .i _ => True
  | 0, _ => False
  | k + 1, .t ds => ds.length ≤ 999 ∧ ∀ d ∈ ds, fit k d
  | k + 1, .l ds => ds.length ≤ 999 ∧ ∀ d ∈ ds, fit k d
theorem fit_i {k : Nat} {n : Int} : fit k (.i n) := by cases k <;> exact True.intro
theorem fit_ints {k : Nat} {ns : List Int} (h : ns.length ≤ 999) : fit (k + 1) (dT ns) := ⟨by rw [List.length_map]; exact h, fun d hd => by
  obtain ⟨n, _, rfl⟩ := List.mem_map.mp hd
  exact fit_i⟩
theorem fit_intsL {k : Nat} {ns : List Int} (h : ns.length ≤ 999) : fit (k + 1) (dL ns) := ⟨by rw [List.length_map]; exact h, fun d hd => by
  obtain ⟨n, _, rfl⟩ := List.mem_map.mp hd
  exact fit_i⟩
def Rtupled (k : Nat) : List V → Hp → (V → Hp → Prop) → Prop := fun vs F P => ∃ v d, vs = [v] ∧ At d v F ∧ fit k d ∧ P = At (tuA d)
theorem lc_at {T : Option Addr} {n m : Nat} {F : Hp} {σ : L2.St} {wi : L2.TI} {te : TE} {vs : List Nat} {xs : List V} {ds : List Da} {g : Da → Da} {j : Nat} (hx : AtL ds xs F)
    (hi : Rn T n m F (fun J F1 => Wk J F1 xs.length (fun i x _ => xs[i]? = some x)) (wi σ)) (hl : ds.length ≤ 999) (hw : ∀ x, wipe ((wipe σ vs).set j (some x)) vs = wipe σ vs)
    (he : ∀ d x F1, d ∈ ds → At d x F1 → Same F F1 → Rn T m m F1 (At (g d)) (te ((wipe σ vs).set j (some x)))) :
    Rn T n m F (NL (AtL (ds.map g))) (tLc wi (gName j) tYes te vs σ) := by
  have hlen := hx.len
  refine Rn.post (e_lcN (xs := xs) (c := fun _ => m) (Inv := fun i acc F1 => AtL ((ds.take i).map g) acc F1) (Pe := fun i v F1 => ∃ d, ds[i]? = some d ∧ At (g d) v F1) hi rfl (by omega) (fun _ _ _ _ s h => AtL.mono _ _ _ _ s h) (fun _ _ => by show AtL [] [] _; rw [atL_nil]; rfl) hw (fun i x F1 hx1 s => ?_) (fun i acc y F1 hlt _ h p => ?_)) fun v F1 _ h => ?_
  · obtain ⟨d, hd, ha⟩ := hx.get hx1
    exact Rn.post (he d x F1 (List.mem_of_getElem? hd) (At.mono d x F F1 s ha) s) fun v F2 _ q => ⟨d, hd, q⟩
  · obtain ⟨d, hd, ha⟩ := p
    have hlt' : i < ds.length := by omega
    have e : ds[i] = d := by rw [List.getElem?_eq_getElem hlt'] at hd; exact Option.some.inj hd
    rw [take_snoc hlt', List.map_append, e]
    exact AtL.snoc h ha
  · obtain ⟨p, us, e1, e2, _, e3⟩ := h
    refine ⟨p, us, e1, e2, ?_⟩
    rw [hlen, List.take_length] at e3
    exact e3
/-- nothing can be asked with no call left -/
theorem none_tupled (F : Fun K "tupled" "tupled" stupled f fd) (B : Bt mg) : ∀ k : Nat, mg "tupled" = some (.ref f) → Binds K fd ["value"] [] → FnOk P w K mg base CX0 (k + 1) f fd ["value"] (mkSp (Rtupled k))
  | 0, g, b => by
    refine F.ok sctupled (fun vs H Q E h => ?_) (fun cdv A outer s H vs Q E hr h => ?_)
    · obtain ⟨_, _, _, ⟨v, d, rfl, _⟩, _⟩ := h; rfl
    obtain ⟨F0, P0, sF, ⟨v, d, rfl, hd, hk, rfl⟩, q⟩ := h
    cases d with
    | i n =>
      rw [at_i] at hd
      cases hd
      have ctupled : Cl P w K mg base "tupled" 0 ["value"] (fun _ _ _ _ => False) f fd := ⟨⟨fun _ _ _ _ h => h.elim, fun _ _ _ _ _ _ _ _ _ _ _ _ _ h => h.elim⟩, g, F.kp, b⟩
      refine ⟨_, (pss_one (ps_ret (pe_ifExp (pt_val (pe_callB call_isiT (by rfl) B.isinstance bt_isinstance (pa_cons (pv 0) (pa_cons (pe_tup (pa_cons (pe_bltn (v := .ty "list") (by rfl) B.list bt_list rfl) (pa_cons (pe_bltn (v := .ty "tuple") (by rfl) B.tuple bt_tuple rfl) pa_nil))) pa_nil)))) (pe_callTy cl_tup (by rfl) B.tuple bt_tuple (pa_cons (pe_lc (own := [("own", 1)]) rfl sctupled.nd (pi_tup (pv 0)) (blkOk_by (own := [("own", 1)]) (N := Ntupled) (sc := defScope stupled) (by decide +kernel)) (fun _ _ _ _ _ => (pg_name (i := 1) sctupled.nd rfl (Or.inl rfl))) (fun _ _ _ _ _ => pts_nil) (fun _ _ _ _ _ => (pe_call ctupled.G (hr.mono (by omega)) (by rfl) ctupled.g ctupled.kp ctupled.b .nil pass0 (pa_cons (pv 1) pa_nil)))) pa_nil)) (pv 0)))), ?_⟩
      refine fin_pure (b_ret (e_ifF (t_val (e_isiT (e_var rfl) (fun _ _ => ty_int) kIL kIT)) ?_)) sF q
      rw [show tuA (.i n) = .i n by rw [tuA], at_i]
      exact e_var rfl
    | t ds => exact hk.elim
    | l ds => exact hk.elim
  | k + 1, g, b => by
    have ih := none_tupled F B k g b
    have ctupled : Cl P w K mg base "tupled" (k + 1) ["value"] (mkSp (Rtupled k)) f fd := ⟨ih, g, F.kp, b⟩
    refine F.ok sctupled (fun vs H Q E h => ?_) (fun cdv A outer s H vs Q E hr h => ?_)
    · obtain ⟨_, _, _, ⟨v, d, rfl, _⟩, _⟩ := h; rfl
    obtain ⟨F0, P0, sF, ⟨v, d, rfl, hd, hk, rfl⟩, q⟩ := h
    cases d with
    | i n =>
      rw [at_i] at hd
      cases hd
      refine ⟨_, (pss_one (ps_ret (pe_ifExp (pt_val (pe_callB call_isiT (by rfl) B.isinstance bt_isinstance (pa_cons (pv 0) (pa_cons (pe_tup (pa_cons (pe_bltn (v := .ty "list") (by rfl) B.list bt_list rfl) (pa_cons (pe_bltn (v := .ty "tuple") (by rfl) B.tuple bt_tuple rfl) pa_nil))) pa_nil)))) (pe_callTy cl_tup (by rfl) B.tuple bt_tuple (pa_cons (pe_lc (own := [("own", 1)]) rfl sctupled.nd (pi_tup (pv 0)) (blkOk_by (own := [("own", 1)]) (N := Ntupled) (sc := defScope stupled) (by decide +kernel)) (fun _ _ _ _ _ => (pg_name (i := 1) sctupled.nd rfl (Or.inl rfl))) (fun _ _ _ _ _ => pts_nil) (fun _ _ _ _ _ => (pe_call ctupled.G (hr.mono (by omega)) (by rfl) ctupled.g ctupled.kp ctupled.b .nil pass0 (pa_cons (pv 1) pa_nil)))) pa_nil)) (pv 0)))), ?_⟩
      refine fin_pure (b_ret (e_ifF (t_val (e_isiT (e_var rfl) (fun _ _ => ty_int) kIL kIT)) ?_)) sF q
      rw [show tuA (.i n) = .i n by rw [tuA], at_i]
      exact e_var rfl
    | t ds =>
      rw [at_t] at hd
      obtain ⟨p, xs, rfl, hp, hx⟩ := hd
      refine ⟨_, (pss_one (ps_ret (pe_ifExp (pt_val (pe_callB call_isiT (by rfl) B.isinstance bt_isinstance (pa_cons (pv 0) (pa_cons (pe_tup (pa_cons (pe_bltn (v := .ty "list") (by rfl) B.list bt_list rfl) (pa_cons (pe_bltn (v := .ty "tuple") (by rfl) B.tuple bt_tuple rfl) pa_nil))) pa_nil)))) (pe_callTy cl_tup (by rfl) B.tuple bt_tuple (pa_cons (pe_lc (own := [("own", 1)]) rfl sctupled.nd (pi_tup (pv 0)) (blkOk_by (own := [("own", 1)]) (N := Ntupled) (sc := defScope stupled) (by decide +kernel)) (fun _ _ _ _ _ => (pg_name (i := 1) sctupled.nd rfl (Or.inl rfl))) (fun _ _ _ _ _ => pts_nil) (fun _ _ _ _ _ => (pe_call ctupled.G (hr.mono (by omega)) (by rfl) ctupled.g ctupled.kp ctupled.b .nil pass0 (pa_cons (pv 1) pa_nil)))) pa_nil)) (pv 0)))), ?_⟩
      refine fin_pure (b_ret (e_ifT (t_val (e_isiT (e_var rfl) (fun _ s => ty_tup hp s) kTL kTT)) ?_)) sF q
      rw [show tuA (.t ds) = .t (tuL ds) by rw [tuA], at_t, tuL_map]
      refine e_tupO (lc_at hx (i_tup (e_var rfl) hp) hk.1 (fun _ => rfl) fun d x F1 hd ha s1 => e_call (a_cons (e_var rfl) a_nil) fun vs F2 s2 a => ?_)
      obtain ⟨_, _, rfl, rfl, rfl⟩ := a
      exact ⟨_, d, rfl, At.mono d _ F1 F2 s2 ha, hk.2 d hd, rfl⟩
    | l ds =>
      rw [at_l] at hd
      obtain ⟨p, xs, rfl, hp, hx⟩ := hd
      refine ⟨_, (pss_one (ps_ret (pe_ifExp (pt_val (pe_callB call_isiT (by rfl) B.isinstance bt_isinstance (pa_cons (pv 0) (pa_cons (pe_tup (pa_cons (pe_bltn (v := .ty "list") (by rfl) B.list bt_list rfl) (pa_cons (pe_bltn (v := .ty "tuple") (by rfl) B.tuple bt_tuple rfl) pa_nil))) pa_nil)))) (pe_callTy cl_tup (by rfl) B.tuple bt_tuple (pa_cons (pe_lc (own := [("own", 1)]) rfl sctupled.nd (pi_list (pv 0)) (blkOk_by (own := [("own", 1)]) (N := Ntupled) (sc := defScope stupled) (by decide +kernel)) (fun _ _ _ _ _ => (pg_name (i := 1) sctupled.nd rfl (Or.inl rfl))) (fun _ _ _ _ _ => pts_nil) (fun _ _ _ _ _ => (pe_call ctupled.G (hr.mono (by omega)) (by rfl) ctupled.g ctupled.kp ctupled.b .nil pass0 (pa_cons (pv 1) pa_nil)))) pa_nil)) (pv 0)))), ?_⟩
      refine fin_pure (b_ret (e_ifT (t_val (e_isiT (e_var rfl) (fun _ s => ty_lst hp s) kLL kLT)) ?_)) sF q
      rw [show tuA (.l ds) = .t (tuL ds) by rw [tuA], at_t, tuL_map]
      refine e_tupO (lc_at hx (i_lst (e_var rfl) hp) hk.1 (fun _ => rfl) fun d x F1 hd ha s1 => e_call (a_cons (e_var rfl) a_nil) fun vs F2 s2 a => ?_)
      obtain ⟨_, _, rfl, rfl, rfl⟩ := a
      exact ⟨_, d, rfl, At.mono d _ F1 F2 s2 ha, hk.2 d hd, rfl⟩
/-! ## ascending numbers -/
def Rascends : List V → Hp → (V → Hp → Prop) → Prop := fun vs F P => ∃ v ns, vs = [v] ∧ TuI ns v F ∧ ns.length ≤ 999 ∧ 0 < ns.length ∧ (∀ i j : Nat, i < j → j < ns.length → ns.getD i 0 < ns.getD j 0) ∧ P = Is (.bl true)
theorem ok_ascends (F : Fun K "ascends" "ascends" sascends f fd) (B : Bt mg) : FnOk P w K mg base CX0 1 f fd ["row"] (mkSp Rascends) := by
  refine F.ok scascends (fun vs H Q E h => ?_) (fun cdv A outer s H vs Q E hr h => ?_)
  · obtain ⟨_, _, _, ⟨v, ns, rfl, _⟩, _⟩ := h; rfl
  obtain ⟨F0, P0, sF, ⟨v, ns, rfl, ⟨p, rfl, hp⟩, hl, h0, ha, rfl⟩, q⟩ := h
  refine ⟨_, (pss_one (ps_ret (pe_callB (cr_all rfl) (by rfl) B.all bt_all (pa_cons (pe_lc (own := [("k", 1)]) rfl scascends.nd (pi_range1 (by rfl) B.range (pa_cons (pe_op op_sub (pe_callB (clen_K (K := K) rfl) (by rfl) B.len bt_len (pa_cons (pv 0) pa_nil)) pe_int) pa_nil)) (blkOk_by (own := [("k", 1)]) (N := Nascends) (sc := defScope sascends) (by decide +kernel)) (fun _ _ _ _ _ => (pg_name (i := 1) scascends.nd rfl (Or.inl rfl))) (fun _ _ _ _ _ => pts_nil) (fun _ _ _ _ _ => (pe_cmpR op_lt (pe_ix (ixT_K (K := K) rfl) (pv 0) (pv 1) (fun _ _ => rfl)) (pe_ix (ixT_K (K := K) rfl) (pv 0) (pe_op op_add (pv 1) pe_int) (fun _ _ => rfl)) (nomark _)))) pa_nil)))), ?_⟩
  refine fin_pure (b_ret (e_all (e_lcRA (val := fun i => (i : Int)) (len := (((ns.map V.int).length : Int) - 1).toNat) (i_rng (e_int0 (e_lenT (e_var rfl) hp) e_c) ?_) ?_ (fun _ => rfl) fun i F1 hi s1 => ?_))) sF q
  · rw [List.length_map]; omega
  · rw [List.length_map]; omega
  · rw [List.length_map] at hi
    have e1 : ga ns (i : Int) = ns.getD i 0 := rfl
    have e2 : ga ns ((i : Int) + 1) = ns.getD (i + 1) 0 := rfl
    refine e_to (e_int0 (i := ga ns (i : Int)) (j := ga ns ((i : Int) + 1)) (e_ixT (e_var rfl) (s1 _ _ hp) (e_var rfl) (atI_ga (by omega) (by omega))) (e_ixT (e_var rfl) (s1 _ _ hp) (e_int0 (e_var rfl) e_c) (atI_ga (by omega) (by omega)))) ?_
    show V.bl (decide (ga ns (i : Int) < ga ns ((i : Int) + 1))) = V.bl true
    rw [decide_eq_true (by rw [e1, e2]; exact ha i (i + 1) (by omega) (by omega))]
def RareNumbers : List V → Hp → (V → Hp → Prop) → Prop := fun vs F P => ∃ v ns, vs = [v] ∧ TuI ns v F ∧ ns.length ≤ 999 ∧ P = Is (.bl true)
theorem ok_arenumbers (F : Fun K "are_numbers" "are_numbers" sarenumbers f fd) (B : Bt mg) (cisnumber : Cl P w K mg base "is_number" 1 ["thing"] (mkSp RisNumber) f1 fd1) : FnOk P w K mg base CX0 2 f fd ["thing"] (mkSp RareNumbers) := by
  refine F.ok scarenumbers (fun vs H Q E h => ?_) (fun cdv A outer s H vs Q E hr h => ?_)
  · obtain ⟨_, _, _, ⟨v, ns, rfl, _⟩, _⟩ := h; rfl
  obtain ⟨F0, P0, sF, ⟨v, ns, rfl, ⟨p, rfl, hp⟩, hl, rfl⟩, q⟩ := h
  refine ⟨_, (pss_one (ps_ret (pe_and (pe_callB call_isi (by rfl) B.isinstance bt_isinstance (pa_cons (pv 0) (pa_cons (pe_bltn (v := .ty "tuple") (by rfl) B.tuple bt_tuple rfl) pa_nil))) (pe_one (pe_callB (cr_all rfl) (by rfl) B.all bt_all (pa_cons (pe_lc (own := [("own", 1)]) rfl scarenumbers.nd (pi_tup (pv 0)) (blkOk_by (own := [("own", 1)]) (N := Narenumbers) (sc := defScope sarenumbers) (by decide +kernel)) (fun _ _ _ _ _ => (pg_name (i := 1) scarenumbers.nd rfl (Or.inl rfl))) (fun _ _ _ _ _ => pts_nil) (fun _ _ _ _ _ => (pe_call cisnumber.G (hr.mono (by omega)) (by rfl) cisnumber.g cisnumber.kp cisnumber.b .nil pass0 (pa_cons (pv 1) pa_nil)))) pa_nil)))))), ?_⟩
  refine fin_pure (b_ret (v_and (e_isi (e_var rfl) (fun _ s => ty_tup hp s) kTT) fun _ => e_all (e_lcA (i_tup (e_var rfl) hp) ?_ (fun _ => rfl) fun x F1 hx s1 => e_call (a_cons (e_var rfl) a_nil) fun vs F2 s2 a => ?_))) sF q
  · rw [List.length_map]; exact hl
  · obtain ⟨_, _, rfl, rfl, rfl⟩ := a
    obtain ⟨n, _, rfl⟩ := List.mem_map.mp hx
    exact ⟨n, rfl, rfl⟩
end
end K22
set_option Elab.async false
set_option linter.all false
set_option maxRecDepth 100000
set_option maxHeartbeats 4000000
namespace K22
open PySem PySem.Spec PyProof.Rows L2 RZ
section
variable {P : Program} {w : World} {K : PySem.W.Frag} {mg : Str → Option Value} {base : Heap} {f f1 f2 f3 f4 : Addr} {fd fd1 fd2 fd3 fd4 : FuncData}
/-! ## wheels -/
def RisWheel : List V → Hp → (V → Hp → Prop) → Prop := fun vs F P => ∃ v ns, vs = [v] ∧ TuI ns v F ∧ ns.length ≤ 999 ∧ IsW ns ∧ P = Is (.bl true)
theorem map_ne {ns : List Int} (h : 0 < ns.length) : ns.map V.int ≠ [] := fun e => by
  rw [List.map_eq_nil_iff] at e
  rw [e] at h; cases h
theorem ok_iswheel (F : Fun K "is_wheel" "is_wheel" siswheel f fd) (B : Bt mg) (cisnumber : Cl P w K mg base "is_number" 1 ["thing"] (mkSp RisNumber) f1 fd1) : FnOk P w K mg base CX0 2 f fd ["thing"] (mkSp RisWheel) := by
  refine F.ok sciswheel (fun vs H Q E h => ?_) (fun cdv A outer s H vs Q E hr h => ?_)
  · obtain ⟨_, _, _, ⟨v, ns, rfl, _⟩, _⟩ := h; rfl
  obtain ⟨F0, P0, sF, ⟨v, ns, rfl, ⟨p, rfl, hp⟩, hl, hw, rfl⟩, q⟩ := h
  have hpos := hw.pos
  refine ⟨_, (pss_cons (ps_if (PW.pt (pw_or (pt_not (pt_val (pe_callB call_isi (by rfl) B.isinstance bt_isinstance (pa_cons (pv 0) (pa_cons (pe_bltn (v := .ty "tuple") (by rfl) B.tuple bt_tuple rfl) pa_nil))))) (pw_or (pt_cmpR op_eq (pe_callB (clen_K (K := K) rfl) (by rfl) B.len bt_len (pa_cons (pv 0) pa_nil)) pe_int (nomark _)) (pw_or1 (pt_not (pt_val (pe_callB (cr_all rfl) (by rfl) B.all bt_all (pa_cons (pe_lc (own := [("own", 1)]) rfl sciswheel.nd (pi_tup (pv 0)) (blkOk_by (own := [("own", 1)]) (N := Niswheel) (sc := defScope siswheel) (by decide +kernel)) (fun _ _ _ _ _ => (pg_name (i := 1) sciswheel.nd rfl (Or.inl rfl))) (fun _ _ _ _ _ => pts_nil) (fun _ _ _ _ _ => (pe_call cisnumber.G (hr.mono (by omega)) (by rfl) cisnumber.g cisnumber.kp cisnumber.b .nil pass0 (pa_cons (pv 1) pa_nil)))) pa_nil)))))))) pss_never pss_nil)
      (pss_cons (ps_if (pt_not (pt_val (pe_callB (cr_all rfl) (by rfl) B.all bt_all (pa_cons (pe_lc (own := [("near", 2), ("far", 3)]) rfl sciswheel.nd (pi_zipA (by rfl) B.zip (pa_cons (pv 0) (pa_cons (pe_slice sl_tup (pv 0) (po_some pe_int) po_none) pa_nil))) (blkOk_by (own := [("near", 2), ("far", 3)]) (N := Niswheel) (sc := defScope siswheel) (by decide +kernel)) (fun _ _ _ _ _ => (pg_tupK (K := K) (n := 2) rfl rfl (pgs_cons (pg_name (i := 2) sciswheel.nd rfl (Or.inl rfl)) (pgs_cons (pg_name (i := 3) sciswheel.nd rfl (Or.inl rfl)) pgs_nil)))) (fun _ _ _ _ _ => pts_nil) (fun _ _ _ _ _ => (pe_cmpR op_le (pv 2) (pv 3) (nomark _)))) pa_nil)))) pss_never pss_nil)
      (pss_one (ps_ret (pe_cmpR op_le (pe_ix (ixT_K (K := K) rfl) (pv 0) (pe_un un_neg pe_int) (fun _ _ => rfl)) (pe_op op_add (pe_ix (ixT_K (K := K) rfl) (pv 0) pe_int (fun _ _ => rfl)) (pe_callB (clen_K (K := K) rfl) (by rfl) B.len bt_len (pa_cons (pv 0) pa_nil))) (nomark _)))))), ?_⟩
  refine fin_pure (b_skip (t_to (t_or (t_not (t_val (e_isi (e_var rfl) (fun _ s => ty_tup hp s) kTT))) fun _ => t_or (b := false) (t_to (t_test (e_eq (e_lenT (e_var rfl) hp) e_c rfl)) ?_) fun _ => t_not (t_val (e_all (e_lcA (i_tup (e_var rfl) hp) ?_ (fun _ => rfl) fun x F1 hx s1 => e_call (a_cons (e_var rfl) a_nil) fun vs F2 s2 a => ?_)))) rfl)
    (b_skip (t_not (t_val (e_all (e_lcZA (len := ns.length - 1) ?_ (i_zipT (nt_of (e_var rfl) hp) (e_tail (e_var rfl) hp (map_ne hpos))) ?_ (fun _ _ => rfl) fun i x y F1 hx hy s1 => ?_))))
    (b_ret (e_to (e_int0 (e_ixT (e_var rfl) hp (e_neg e_c) (atI_end hpos)) (e_int0 (e_ixT (e_var rfl) hp e_c (atI_ga (i := 0) (by omega) (by omega))) (e_lenT (e_var rfl) hp))) ?_)))) sF q
  · rw [List.length_map]
    refine decide_eq_false fun e => ?_
    have e' := V.int.inj e
    omega
  · rw [List.length_map]; exact hl
  · obtain ⟨_, _, rfl, rfl, rfl⟩ := a
    obtain ⟨n, _, rfl⟩ := List.mem_map.mp hx
    exact ⟨n, rfl, rfl⟩
  · rw [List.length_drop, List.length_map]; omega
  · omega
  · rw [List.getElem?_map] at hx
    obtain ⟨a, ha, rfl⟩ := Option.map_eq_some_iff.mp hx
    rw [List.getElem?_drop, List.getElem?_map] at hy
    obtain ⟨b, hb, rfl⟩ := Option.map_eq_some_iff.mp hy
    refine e_to (e_int0 (i := a) (j := b) (e_var rfl) (e_var rfl)) ?_
    have ea : ns.getD i 0 = a := by rw [List.getD_eq_getElem?_getD, ha]; rfl
    have eb : ns.getD (1 + i) 0 = b := by rw [List.getD_eq_getElem?_getD, hb]; rfl
    have hlt : 1 + i < ns.length := (List.getElem?_eq_some_iff.mp hb).1
    show V.bl (decide (a ≤ b)) = V.bl true
    rw [decide_eq_true (by rw [← ea, ← eb]; exact hw.mono i (1 + i) (by omega) hlt)]
  · show V.bl (decide (ns.getD (ns.length - 1) 0 ≤ ga ns 0 + ((ns.map V.int).length : Int))) = V.bl true
    rw [List.length_map, decide_eq_true (show ns.getD (ns.length - 1) 0 ≤ ga ns 0 + (ns.length : Int) from hw.turn)]
/-! ## a wheel that is sure -/
theorem tuI_at {ns : List Int} {v : V} {F : Hp} (h : TuI ns v F) : At (dT ns) v F := tuI_iff.mpr h
theorem tuA_dT {ns : List Int} : tuA (dT ns) = dT ns := by
  show tuA (.t _) = _
  rw [tuA, tuA_ints]
theorem tuA_dL {ns : List Int} : tuA (dL ns) = dT ns := by
  show tuA (.l _) = _
  rw [tuA, tuA_ints]
def RsureWheel : List V → Hp → (V → Hp → Prop) → Prop := fun vs F P => ∃ v ns, vs = [v] ∧ TuI ns v F ∧ ns.length ≤ 999 ∧ IsW ns ∧ P = TuI ns
theorem ok_surewheel (F : Fun K "sure_wheel" "sure_wheel" ssurewheel f fd) (B : Bt mg) (ctupled : Cl P w K mg base "tupled" 3 ["value"] (mkSp (Rtupled 2)) f1 fd1) (ciswheel : Cl P w K mg base "is_wheel" 2 ["thing"] (mkSp RisWheel) f2 fd2) :
    FnOk P w K mg base CX0 4 f fd ["wheel"] (mkSp RsureWheel) := by
  refine F.ok scsurewheel (fun vs H Q E h => ?_) (fun cdv A outer s H vs Q E hr h => ?_)
  · obtain ⟨_, _, _, ⟨v, ns, rfl, _⟩, _⟩ := h; rfl
  obtain ⟨F0, P0, sF, ⟨v, ns, rfl, hv, hl, hw, rfl⟩, q⟩ := h
  refine ⟨_, (pss_cons (ps_set (i := 1) scsurewheel.nd rfl (Or.inl rfl) (pe_call ctupled.G (hr.mono (by omega)) (by rfl) ctupled.g ctupled.kp ctupled.b .nil pass0 (pa_cons (pv 0) pa_nil)))
      (pss_cons (ps_if (pt_not (pt_val (pe_call ciswheel.G (hr.mono (by omega)) (by rfl) ciswheel.g ciswheel.kp ciswheel.b .nil pass0 (pa_cons (pv 1) pa_nil)))) pss_never pss_nil)
      (pss_one (ps_ret (pv 1))))), ?_⟩
  refine fin_pure (b_asg (A := At (dT ns)) (e_call (a_cons (e_var rfl) a_nil) fun vs F1 s1 a => ?_) fun v F1 s1 hv1 => b_skip (t_not (t_val (b := true) (e_call (a_cons (e_var rfl) a_nil) fun vs F2 s2 a => ?_))) (b_ret (Rn.post (e_var rfl) fun u F2 s2 e => ?_))) sF q
  · obtain ⟨_, _, rfl, rfl, rfl⟩ := a
    exact ⟨_, dT ns, rfl, At.mono _ _ _ _ s1 (tuI_at hv), fit_ints hl, by rw [tuA_dT]⟩
  · obtain ⟨_, _, rfl, rfl, rfl⟩ := a
    exact ⟨_, ns, rfl, tuI_iff.mp (At.mono _ _ _ _ s2 hv1), hl, hw, rfl⟩
  · cases e
    exact tuI_iff.mp (At.mono _ _ _ _ s2 hv1)
/-! ## trains of two wheels -/
def RisTrain : List V → Hp → (V → Hp → Prop) → Prop := fun vs F P => ∃ v w1 w2, vs = [v] ∧ At (.t [dT w1, dT w2]) v F ∧ w1.length ≤ 999 ∧ IsW w1 ∧ IsW w2 ∧ w2.length = w1.length ∧ P = Is (.bl true)
theorem at_pair {d e : Da} {v : V} {F : Hp} (h : At (.t [d, e]) v F) : ∃ p x y, v = .ref p ∧ F p = some (.tup [x, y]) ∧ At d x F ∧ At e y F := by
  rw [at_t] at h
  obtain ⟨p, vs, rfl, hp, hv⟩ := h
  rw [atL_cons, atL_cons, atL_nil] at hv
  obtain ⟨x, _, rfl, hx, y, _, rfl, hy, rfl⟩ := hv
  exact ⟨p, x, y, rfl, hp, hx, hy⟩
theorem of_pair {d e : Da} {p : Addr} {x y : V} {F : Hp} (hp : F p = some (.tup [x, y])) (hx : At d x F) (hy : At e y F) : At (.t [d, e]) (.ref p) F := by
  rw [at_t]
  refine ⟨p, _, rfl, hp, ?_⟩
  rw [atL_cons, atL_cons, atL_nil]
  exact ⟨x, _, rfl, hx, y, _, rfl, hy, rfl⟩
theorem ok_istrain (F : Fun K "is_train" "is_train" sistrain f fd) (B : Bt mg) (ciswheel : Cl P w K mg base "is_wheel" 2 ["thing"] (mkSp RisWheel) f1 fd1) : FnOk P w K mg base CX0 3 f fd ["thing"] (mkSp RisTrain) := by
  refine F.ok scistrain (fun vs H Q E h => ?_) (fun cdv A outer s H vs Q E hr h => ?_)
  · obtain ⟨_, _, _, ⟨v, _, _, rfl, _⟩, _⟩ := h; rfl
  obtain ⟨F0, P0, sF, ⟨v, w1, w2, rfl, hv, hl, h1, h2, he, rfl⟩, q⟩ := h
  obtain ⟨p, x, y, rfl, hp, hx, hy⟩ := at_pair hv
  have tx := tuI_iff.mp hx
  have ty := tuI_iff.mp hy
  obtain ⟨px, rfl, hpx⟩ := id tx
  obtain ⟨py, rfl, hpy⟩ := id ty
  refine ⟨_, (pss_cons (ps_if (PW.pt (pw_or (pt_not (pt_val (pe_callB call_isi (by rfl) B.isinstance bt_isinstance (pa_cons (pv 0) (pa_cons (pe_bltn (v := .ty "tuple") (by rfl) B.tuple bt_tuple rfl) pa_nil))))) (pw_or (pt_cmpR op_eq (pe_callB (clen_K (K := K) rfl) (by rfl) B.len bt_len (pa_cons (pv 0) pa_nil)) pe_int (nomark _)) (pw_or1 (pt_not (pt_val (pe_callB (cr_all rfl) (by rfl) B.all bt_all (pa_cons (pe_lc (own := [("own", 1)]) rfl scistrain.nd (pi_tup (pv 0)) (blkOk_by (own := [("own", 1)]) (N := Nistrain) (sc := defScope sistrain) (by decide +kernel)) (fun _ _ _ _ _ => (pg_name (i := 1) scistrain.nd rfl (Or.inl rfl))) (fun _ _ _ _ _ => pts_nil) (fun _ _ _ _ _ => (pe_call ciswheel.G (hr.mono (by omega)) (by rfl) ciswheel.g ciswheel.kp ciswheel.b .nil pass0 (pa_cons (pv 1) pa_nil)))) pa_nil)))))))) pss_never pss_nil)
      (pss_one (ps_ret (pe_callB (cr_all rfl) (by rfl) B.all bt_all (pa_cons (pe_lc (own := [("own", 1)]) rfl scistrain.nd (pi_tup (pv 0)) (blkOk_by (own := [("own", 1)]) (N := Nistrain) (sc := defScope sistrain) (by decide +kernel)) (fun _ _ _ _ _ => (pg_name (i := 1) scistrain.nd rfl (Or.inl rfl))) (fun _ _ _ _ _ => pts_nil) (fun _ _ _ _ _ => (pe_cmpR op_eq (pe_callB (clen_K (K := K) rfl) (by rfl) B.len bt_len (pa_cons (pv 1) pa_nil)) (pe_callB (clen_K (K := K) rfl) (by rfl) B.len bt_len (pa_cons (pe_ix (ixT_K (K := K) rfl) (pv 0) pe_int (fun _ _ => rfl)) pa_nil)) (nomark _)))) pa_nil))))), ?_⟩
  refine fin_pure (b_skip (t_to (t_or (t_not (t_val (e_isi (e_var rfl) (fun _ s => ty_tup hp s) kTT))) fun _ => t_or (b := false) (t_to (t_test (e_eq (e_lenT (e_var rfl) hp) e_c rfl)) rfl) fun _ => t_not (t_val (e_all (e_lcA (i_tup (e_var rfl) hp) (by show 2 ≤ 999; decide) (fun _ => rfl) fun x F1 hx s1 => e_call (a_cons (e_var rfl) a_nil) fun vs F2 s2 a => ?_)))) rfl)
    (b_ret (e_all (e_lcA (i_tup (e_var rfl) hp) (by show 2 ≤ 999; decide) (fun _ => rfl) fun x F1 hx s1 => ?_)))) sF q
  · obtain ⟨_, _, rfl, rfl, rfl⟩ := a
    rcases List.mem_cons.mp hx with e | e
    · rw [e]; exact ⟨_, w1, rfl, Mo.mo _ _ _ (s1.trans s2) tx, hl, h1, rfl⟩
    · rw [List.mem_singleton.mp e]; exact ⟨_, w2, rfl, Mo.mo _ _ _ (s1.trans s2) ty, by omega, h2, rfl⟩
  · have e0 : atI [V.ref px, V.ref py] (0 : Int) = some (.ref px) := rfl
    rcases List.mem_cons.mp hx with e | e
    · subst e
      refine e_to (e_eq (e_lenT (e_var rfl) (s1 _ _ hpx)) (e_lenT (p := px) (e_ixT (e_var rfl) (s1 _ _ hp) e_c e0) (s1 _ _ hpx)) rfl) ?_
      rw [decide_eq_true rfl]
    · rw [List.mem_singleton.mp e]
      refine e_to (e_eq (e_lenT (e_var rfl) (s1 _ _ hpy)) (e_lenT (p := px) (e_ixT (e_var rfl) (s1 _ _ hp) e_c e0) (s1 _ _ hpx)) rfl) ?_
      rw [decide_eq_true (by rw [List.length_map, List.length_map, he])]
def RsureTrain : List V → Hp → (V → Hp → Prop) → Prop := fun vs F P => ∃ v w1 w2, vs = [v] ∧ At (.t [dT w1, dT w2]) v F ∧ w1.length ≤ 999 ∧ IsW w1 ∧ IsW w2 ∧ w2.length = w1.length ∧ P = At (.t [dT w1, dT w2])
theorem tuA_pair {w1 w2 : List Int} : tuA (.t [dT w1, dT w2]) = .t [dT w1, dT w2] := by
  rw [tuA, tuL, tuL, tuL, tuA_dT, tuA_dT]
theorem fit_pair {w1 w2 : List Int} (h1 : w1.length ≤ 999) (h2 : w2.length ≤ 999) {k : Nat} : fit (k + 2) (.t [dT w1, dT w2]) := ⟨by show 2 ≤ 999; decide, fun d hd => by
  rcases List.mem_cons.mp hd with e | e
  · rw [e]; exact fit_ints h1
  · rw [List.mem_singleton.mp e]; exact fit_ints h2⟩
theorem ok_suretrain (F : Fun K "sure_train" "sure_train" ssuretrain f fd) (B : Bt mg) (ctupled : Cl P w K mg base "tupled" 3 ["value"] (mkSp (Rtupled 2)) f1 fd1) (cistrain : Cl P w K mg base "is_train" 3 ["thing"] (mkSp RisTrain) f2 fd2) :
    FnOk P w K mg base CX0 4 f fd ["train"] (mkSp RsureTrain) := by
  refine F.ok scsuretrain (fun vs H Q E h => ?_) (fun cdv A outer s H vs Q E hr h => ?_)
  · obtain ⟨_, _, _, ⟨v, _, _, rfl, _⟩, _⟩ := h; rfl
  obtain ⟨F0, P0, sF, ⟨v, w1, w2, rfl, hv, hl, h1, h2, he, rfl⟩, q⟩ := h
  refine ⟨_, (pss_cons (ps_set (i := 1) scsuretrain.nd rfl (Or.inl rfl) (pe_call ctupled.G (hr.mono (by omega)) (by rfl) ctupled.g ctupled.kp ctupled.b .nil pass0 (pa_cons (pv 0) pa_nil)))
      (pss_cons (ps_if (pt_not (pt_val (pe_call cistrain.G (hr.mono (by omega)) (by rfl) cistrain.g cistrain.kp cistrain.b .nil pass0 (pa_cons (pv 1) pa_nil)))) pss_never pss_nil)
      (pss_one (ps_ret (pv 1))))), ?_⟩
  refine fin_pure (b_asg (A := At (.t [dT w1, dT w2])) (e_call (a_cons (e_var rfl) a_nil) fun vs F1 s1 a => ?_) fun v F1 s1 hv1 => b_skip (t_not (t_val (b := true) (e_call (a_cons (e_var rfl) a_nil) fun vs F2 s2 a => ?_))) (b_ret (Rn.post (e_var rfl) fun u F2 s2 e => ?_))) sF q
  · obtain ⟨_, _, rfl, rfl, rfl⟩ := a
    exact ⟨_, .t [dT w1, dT w2], rfl, At.mono _ _ _ _ s1 hv, fit_pair hl (by omega), by rw [tuA_pair]⟩
  · obtain ⟨_, _, rfl, rfl, rfl⟩ := a
    exact ⟨_, w1, w2, rfl, At.mono _ _ _ _ s2 hv1, hl, h1, h2, he, rfl⟩
  · cases e
    exact At.mono _ _ _ _ s2 hv1
/-! ## places -/
def RisPlacesIn : List V → Hp → (V → Hp → Prop) → Prop := fun vs F P => ∃ n v ns, vs = [.int n, v] ∧ TuI ns v F ∧ ns.length ≤ 999 ∧ IsP ns n ∧ P = Is (.bl true)
theorem ok_isplacesin (F : Fun K "is_places_in" "is_places_in" sisplacesin f fd) (B : Bt mg) (carenumbers : Cl P w K mg base "are_numbers" 2 ["thing"] (mkSp RareNumbers) f1 fd1) (cascends : Cl P w K mg base "ascends" 1 ["row"] (mkSp Rascends) f2 fd2) :
    FnOk P w K mg base CX0 3 f fd ["ring", "thing"] (mkSp RisPlacesIn) := by
  refine F.ok scisplacesin (fun vs H Q E h => ?_) (fun cdv A outer s H vs Q E hr h => ?_)
  · obtain ⟨_, _, _, ⟨n, v, ns, rfl, _⟩, _⟩ := h; rfl
  obtain ⟨F0, P0, sF, ⟨n, v, ns, rfl, hv, hl, hP, rfl⟩, q⟩ := h
  obtain ⟨p, rfl, hp⟩ := id hv
  have hpos := hP.pos
  refine ⟨_, (pss_one (ps_ret (pe_and (pe_call carenumbers.G (hr.mono (by omega)) (by rfl) carenumbers.g carenumbers.kp carenumbers.b .nil pass0 (pa_cons (pv 1) pa_nil)) (pe_and (pe_cmpR op_gt (pe_callB (clen_K (K := K) rfl) (by rfl) B.len bt_len (pa_cons (pv 1) pa_nil)) pe_int (nomark _)) (pe_and (pe_call cascends.G (hr.mono (by omega)) (by rfl) cascends.g cascends.kp cascends.b .nil pass0 (pa_cons (pv 1) pa_nil)) (pe_and (pe_cmpR op_le pe_int (pe_ix (ixT_K (K := K) rfl) (pv 1) pe_int (fun _ _ => rfl)) (nomark _)) (pe_one (pe_cmpR op_lt (pe_ix (ixT_K (K := K) rfl) (pv 1) (pe_un un_neg pe_int) (fun _ _ => rfl)) (pv 0) (nomark _))))))))), ?_⟩
  refine fin_pure (b_ret (e_to (v_and (b := true) (e_call (a_cons (e_var rfl) a_nil) fun vs F1 s1 a => ?_) fun _ => v_and (e_int0 (e_lenT (e_var rfl) hp) e_c) fun _ => v_and (b := true) (e_call (a_cons (e_var rfl) a_nil) fun vs F1 s1 a => ?_) fun _ => v_and (e_int0 e_c (e_ixT (e_var rfl) hp e_c (atI_ga (i := 0) (by omega) (by omega)))) fun _ => e_int0 (e_ixT (e_var rfl) hp (e_neg e_c) (atI_end hpos)) (e_var rfl)) ?_)) sF q
  · obtain ⟨_, _, rfl, rfl, rfl⟩ := a
    exact ⟨_, ns, rfl, Mo.mo _ _ _ s1 hv, hl, rfl⟩
  · obtain ⟨_, _, rfl, rfl, rfl⟩ := a
    exact ⟨_, ns, rfl, Mo.mo _ _ _ s1 hv, hl, hpos, hP.asc, rfl⟩
  · have e1 : (0 : Int) < ((ns.map V.int).length : Int) := by rw [List.length_map]; omega
    have e2 : 0 ≤ ga ns 0 := hP.low 0 hpos
    have e3 := hP.top (ns.length - 1) (by omega)
    show V.bl (true && (decide ((0 : Int) < ((ns.map V.int).length : Int)) && (true && (decide (0 ≤ ga ns 0) && decide (ns.getD (ns.length - 1) 0 < n))))) = V.bl true
    rw [decide_eq_true e1, decide_eq_true e2, decide_eq_true e3]
    rfl
def RsurePlaces : List V → Hp → (V → Hp → Prop) → Prop := fun vs F P => ∃ n v d ns, vs = [v, .int n] ∧ At d v F ∧ (d = dT ns ∨ d = dL ns) ∧ ns.length ≤ 999 ∧ IsP ns n ∧ P = TuI ns
theorem ok_sureplaces (F : Fun K "sure_places" "sure_places" ssureplaces f fd) (B : Bt mg) (ctupled : Cl P w K mg base "tupled" 3 ["value"] (mkSp (Rtupled 2)) f1 fd1) (cisfrom : Cl P w K mg base "is_from" 2 ["thing", "least"] (mkSp RisFrom) f2 fd2) (cisplacesin : Cl P w K mg base "is_places_in" 3 ["ring", "thing"] (mkSp RisPlacesIn) f3 fd3) :
    FnOk P w K mg base CX0 4 f fd ["places", "ring"] (mkSp RsurePlaces) := by
  refine F.ok scsureplaces (fun vs H Q E h => ?_) (fun cdv A outer s H vs Q E hr h => ?_)
  · obtain ⟨_, _, _, ⟨n, v, d, ns, rfl, _⟩, _⟩ := h; rfl
  obtain ⟨F0, P0, sF, ⟨n, v, d, ns, rfl, hv, hd, hl, hP, rfl⟩, q⟩ := h
  have hn := hP.npos
  refine ⟨_, (pss_cons (ps_set (i := 2) scsureplaces.nd rfl (Or.inl rfl) (pe_call ctupled.G (hr.mono (by omega)) (by rfl) ctupled.g ctupled.kp ctupled.b .nil pass0 (pa_cons (pv 0) pa_nil)))
      (pss_cons (ps_if (PW.pt (pw_or (pt_not (pt_val (pe_call cisfrom.G (hr.mono (by omega)) (by rfl) cisfrom.g cisfrom.kp cisfrom.b .nil pass0 (pa_cons (pv 1) (pa_cons pe_int pa_nil))))) (pw_or1 (pt_not (pt_val (pe_call cisplacesin.G (hr.mono (by omega)) (by rfl) cisplacesin.g cisplacesin.kp cisplacesin.b .nil pass0 (pa_cons (pv 1) (pa_cons (pv 2) pa_nil)))))))) pss_never pss_nil)
      (pss_one (ps_ret (pv 2))))), ?_⟩
  refine fin_pure (b_asg (A := At (dT ns)) (e_call (a_cons (e_var rfl) a_nil) fun vs F1 s1 a => ?_) fun v F1 s1 hv1 => b_skip (t_to (t_or (t_not (t_val (b := true) (e_call (a_cons (e_var rfl) (a_cons e_c a_nil)) fun vs F2 s2 a => ?_))) fun _ => t_not (t_val (b := true) (e_call (a_cons (e_var rfl) (a_cons (e_var rfl) a_nil)) fun vs F2 s2 a => ?_))) rfl) (b_ret (Rn.post (e_var rfl) fun u F2 s2 e => ?_))) sF q
  · obtain ⟨_, _, rfl, rfl, rfl⟩ := a
    rcases hd with rfl | rfl
    · exact ⟨_, dT ns, rfl, At.mono _ _ _ _ s1 hv, fit_ints hl, by rw [tuA_dT]⟩
    · exact ⟨_, dL ns, rfl, At.mono _ _ _ _ s1 hv, fit_intsL hl, by rw [tuA_dL]⟩
  · obtain ⟨_, _, rfl, rfl, _, _, rfl, rfl, rfl⟩ := a
    exact ⟨n, 1, rfl, by omega, rfl⟩
  · obtain ⟨_, _, rfl, rfl, _, _, rfl, rfl, rfl⟩ := a
    exact ⟨n, _, ns, rfl, tuI_iff.mp (At.mono _ _ _ _ s2 hv1), hl, hP, rfl⟩
  · cases e
    exact tuI_iff.mp (At.mono _ _ _ _ s2 hv1)
end
end K22
set_option Elab.async false
set_option linter.all false
set_option maxRecDepth 100000
set_option maxHeartbeats 4000000
namespace K22
open PySem PySem.Spec PyProof.Rows L2 RZ
section
variable {P : Program} {w : World} {K : PySem.W.Frag} {mg : Str → Option Value} {base : Heap} {f f1 f2 f3 f4 : Addr} {fd fd1 fd2 fd3 fd4 : FuncData}
/-! ## the last of places at or ahead -/
def RaheadIn : List V → Hp → (V → Hp → Prop) → Prop := fun vs F P => ∃ v ns n z, vs = [v, .int n, .int z] ∧ TuI ns v F ∧ ns.length ≤ 999 ∧ 0 < n ∧ n < 1000 ∧ P = Is (.int (ahd ns n z))
theorem mul_len {i : Int} {xs : List V} (h : xs.length ≤ 999) : CMul i (xs.length : Int) := .inr ⟨by omega, by omega⟩
theorem ok_aheadin (F : Fun K "ahead_in" "ahead_in" saheadin f fd) (B : Bt mg) : FnOk P w K mg base CX0 1 f fd ["places", "ring", "number"] (mkSp RaheadIn) := by
  refine F.ok scaheadin (fun vs H Q E h => ?_) (fun cdv A outer s H vs Q E hr h => ?_)
  · obtain ⟨_, _, _, ⟨v, ns, n, z, rfl, _⟩, _⟩ := h; rfl
  obtain ⟨F0, P0, sF, ⟨v, ns, n, z, rfl, ⟨p, rfl, hp⟩, hl, h0, h1, rfl⟩, q⟩ := h
  have hx : (ns.map V.int).length ≤ 999 := by rw [List.length_map]; exact hl
  refine ⟨_, (pss_cons (ps_set (i := 3) scaheadin.nd rfl (Or.inl rfl) (pe_op op_mul (pe_op op_fdiv (pv 2) (pv 1)) (pe_callB (clen_K (K := K) rfl) (by rfl) B.len bt_len (pa_cons (pv 0) pa_nil))))
      (pss_one (ps_ret (pe_op op_sub (pe_op op_add (pv 3) (pe_callB (clen_K (K := K) rfl) (by rfl) B.len bt_len (pa_cons (pe_lc (own := [("own", 4)]) rfl scaheadin.nd (pi_tup (pv 0)) (blkOk_by (own := [("own", 4)]) (N := Naheadin) (sc := defScope saheadin) (by decide +kernel)) (fun _ _ _ _ _ => (pg_name (i := 4) scaheadin.nd rfl (Or.inl rfl))) (fun _ _ _ _ _ => (pts_one (pt_cmpR op_le (pv 4) (pe_op op_mod (pv 2) (pv 1)) (nomark _)))) (fun _ _ _ _ _ => (pv 4))) pa_nil))) pe_int)))), ?_⟩
  refine fin_pure (b_asg (e_int (e_int (e_var rfl) (e_var rfl) ⟨h0, by omega⟩) (e_lenT (e_var rfl) hp) (mul_len hx)) fun v F1 s1 e => ?_) sF q
  cases e
  refine b_ret (e_int0 (i := z / n * ((ns.map V.int).length : Int) + (cnt ns (z % n) : Int)) (e_int0 (j := (cnt ns (z % n) : Int)) (e_var rfl) ?_) e_c ?_)
  · refine e_cb (a_cons (e_lcF (f := fun o => decide (o ≤ z % n)) (i_tup (e_var rfl) (s1 _ _ hp)) hl (fun _ => rfl) (fun _ => rfl) fun a F2 ha s2 => t_test (e_int0 (e_var rfl) (e_int (e_var rfl) (e_var rfl) h0))) a_nil) fun vs F2 s2 a => fun F3 H3 s3 s4 tn Q r => ?_
    obtain ⟨_, _, rfl, ⟨q2, us, rfl, hq, e⟩, rfl⟩ := a
    cases e
    refine ⟨q2, _, rfl, .inl (.inl (.inl (s4 _ _ (s3 _ _ hq)))), r _ F3 H3 (Gr.refl s4) tn ?_⟩
    rw [List.length_map]
    rfl
  · show V.int (z / n * ((ns.map V.int).length : Int) + (cnt ns (z % n) : Int) - 1) = V.int (ahd ns n z)
    rw [List.length_map]
    rfl
/-! ## seen -/
def Rsee (M : List Int → List Int → List Int) : List V → Hp → (V → Hp → Prop) → Prop := fun vs F P => ∃ a b w p, vs = [a, b] ∧ TuI w a F ∧ TuI p b F ∧ w.length ≤ 999 ∧ p.length ≤ 999 ∧ IsP p (w.length : Int) ∧ P = TuI (M w p)
theorem mem_place {p : List Int} {n o : Int} (h : IsP p n) (ho : o ∈ p) : 0 ≤ o ∧ o < n := by
  obtain ⟨i, hi, e⟩ := List.getElem_of_mem ho
  have e' : p.getD i 0 = o := by rw [List.getD_eq_getElem?_getD, List.getElem?_eq_getElem hi, ← e]; rfl
  have a := h.low i hi
  have b := h.top i hi
  rw [e'] at a b
  exact ⟨a, b⟩
theorem ok_seenin (F : Fun K "seen_in" "seen_in" sseenin f fd) (B : Bt mg) (caheadin : Cl P w K mg base "ahead_in" 1 ["places", "ring", "number"] (mkSp RaheadIn) f1 fd1) : FnOk P w K mg base CX0 2 f fd ["wheel", "places"] (mkSp (Rsee seeM)) := by
  refine F.ok scseenin (fun vs H Q E h => ?_) (fun cdv A outer s H vs Q E hr h => ?_)
  · obtain ⟨_, _, _, ⟨_, _, _, _, rfl, _⟩, _⟩ := h; rfl
  obtain ⟨F0, P0, sF, ⟨a, b, wh, ps, rfl, ⟨x, rfl, hx⟩, hb, hl, hl2, hP, rfl⟩, q⟩ := h
  obtain ⟨y, rfl, hy⟩ := id hb
  have hn := hP.npos
  refine ⟨_, (pss_one (ps_ret (pe_callTy cl_tup (by rfl) B.tuple bt_tuple (pa_cons (pe_lc (own := [("own", 2)]) rfl scseenin.nd (pi_tup (pv 1)) (blkOk_by (own := [("own", 2)]) (N := Nseenin) (sc := defScope sseenin) (by decide +kernel)) (fun _ _ _ _ _ => (pg_name (i := 2) scseenin.nd rfl (Or.inl rfl))) (fun _ _ _ _ _ => pts_nil) (fun _ _ _ _ _ => (pe_call caheadin.G (hr.mono (by omega)) (by rfl) caheadin.g caheadin.kp caheadin.b .nil pass0 (pa_cons (pv 1) (pa_cons (pe_callB (clen_K (K := K) rfl) (by rfl) B.len bt_len (pa_cons (pv 0) pa_nil)) (pa_cons (pe_ix (ixT_K (K := K) rfl) (pv 0) (pv 2) (fun _ _ => rfl)) pa_nil)))))) pa_nil)))), ?_⟩
  refine fin_pure (b_ret (Rn.post (e_tupO (e_lcI (f := fun o => ahd ps (wh.length : Int) (ga wh o)) (i_tup (e_var rfl) hy) hl2 (fun _ => rfl) fun o F1 ho s1 => ?_)) fun v F1 s1 h => nt_tuI h)) sF q
  have hm := mem_place hP ho
  refine e_call (a_cons (e_var rfl) (a_cons (e_lenT (e_var rfl) (s1 _ _ hx)) (a_cons (e_ixT (e_var rfl) (s1 _ _ hx) (e_var rfl) (atI_ga hm.1 hm.2)) a_nil))) fun vs F2 s2 a => ?_
  obtain ⟨_, _, rfl, rfl, _, _, rfl, rfl, _, _, rfl, rfl, rfl⟩ := a
  exact ⟨_, ps, (wh.length : Int), ga wh o, by rw [List.length_map], Mo.mo _ _ _ (s1.trans s2) hb, hl2, hn, by omega, rfl⟩
theorem ok_strictlyin (F : Fun K "strictly_in" "strictly_in" sstrictlyin f fd) (B : Bt mg) (caheadin : Cl P w K mg base "ahead_in" 1 ["places", "ring", "number"] (mkSp RaheadIn) f1 fd1) : FnOk P w K mg base CX0 2 f fd ["wheel", "places"] (mkSp (Rsee strM)) := by
  refine F.ok scstrictlyin (fun vs H Q E h => ?_) (fun cdv A outer s H vs Q E hr h => ?_)
  · obtain ⟨_, _, _, ⟨_, _, _, _, rfl, _⟩, _⟩ := h; rfl
  obtain ⟨F0, P0, sF, ⟨a, b, wh, ps, rfl, ⟨x, rfl, hx⟩, hb, hl, hl2, hP, rfl⟩, q⟩ := h
  obtain ⟨y, rfl, hy⟩ := id hb
  have hn := hP.npos
  refine ⟨_, (pss_one (ps_ret (pe_callTy cl_tup (by rfl) B.tuple bt_tuple (pa_cons (pe_lc (own := [("own", 2)]) rfl scstrictlyin.nd (pi_tup (pv 1)) (blkOk_by (own := [("own", 2)]) (N := Nstrictlyin) (sc := defScope sstrictlyin) (by decide +kernel)) (fun _ _ _ _ _ => (pg_name (i := 2) scstrictlyin.nd rfl (Or.inl rfl))) (fun _ _ _ _ _ => pts_nil) (fun _ _ _ _ _ => (pe_call caheadin.G (hr.mono (by omega)) (by rfl) caheadin.g caheadin.kp caheadin.b .nil pass0 (pa_cons (pv 1) (pa_cons (pe_callB (clen_K (K := K) rfl) (by rfl) B.len bt_len (pa_cons (pv 0) pa_nil)) (pa_cons (pe_op op_sub (pe_ix (ixT_K (K := K) rfl) (pv 0) (pv 2) (fun _ _ => rfl)) pe_int) pa_nil)))))) pa_nil)))), ?_⟩
  refine fin_pure (b_ret (Rn.post (e_tupO (e_lcI (f := fun o => ahd ps (wh.length : Int) (ga wh o - 1)) (i_tup (e_var rfl) hy) hl2 (fun _ => rfl) fun o F1 ho s1 => ?_)) fun v F1 s1 h => nt_tuI h)) sF q
  have hm := mem_place hP ho
  refine e_call (a_cons (e_var rfl) (a_cons (e_lenT (e_var rfl) (s1 _ _ hx)) (a_cons (e_int0 (e_ixT (e_var rfl) (s1 _ _ hx) (e_var rfl) (atI_ga hm.1 hm.2)) e_c) a_nil))) fun vs F2 s2 a => ?_
  obtain ⟨_, _, rfl, rfl, _, _, rfl, rfl, _, _, rfl, rfl, rfl⟩ := a
  exact ⟨_, ps, (wh.length : Int), ga wh o - 1, by rw [List.length_map], Mo.mo _ _ _ (s1.trans s2) hb, hl2, hn, by omega, rfl⟩
def RbothSure : List V → Hp → (V → Hp → Prop) → Prop := fun vs F P => ∃ a b w p, vs = [a, b] ∧ TuI w a F ∧ TuI p b F ∧ w.length ≤ 999 ∧ p.length ≤ 999 ∧ IsW w ∧ IsP p (w.length : Int) ∧ P = fun v F => ∃ q x y, v = .ref q ∧ F q = some (.tup [x, y]) ∧ TuI w x F ∧ TuI p y F
theorem ok_bothsure (F : Fun K "both_sure" "both_sure" sbothsure f fd) (B : Bt mg) (csurewheel : Cl P w K mg base "sure_wheel" 4 ["wheel"] (mkSp RsureWheel) f1 fd1) (csureplaces : Cl P w K mg base "sure_places" 4 ["places", "ring"] (mkSp RsurePlaces) f2 fd2) :
    FnOk P w K mg base CX0 5 f fd ["wheel", "places"] (mkSp RbothSure) := by
  refine F.ok scbothsure (fun vs H Q E h => ?_) (fun cdv A outer s H vs Q E hr h => ?_)
  · obtain ⟨_, _, _, ⟨_, _, _, _, rfl, _⟩, _⟩ := h; rfl
  obtain ⟨F0, P0, sF, ⟨a, b, wh, ps, rfl, ha, hb, hl, hl2, hW, hP, rfl⟩, q⟩ := h
  refine ⟨_, (pss_cons (ps_set (i := 2) scbothsure.nd rfl (Or.inl rfl) (pe_call csurewheel.G (hr.mono (by omega)) (by rfl) csurewheel.g csurewheel.kp csurewheel.b .nil pass0 (pa_cons (pv 0) pa_nil)))
      (pss_one (ps_ret (pe_tup (pa_cons (pv 2) (pa_cons (pe_call csureplaces.G (hr.mono (by omega)) (by rfl) csureplaces.g csureplaces.kp csureplaces.b .nil pass0 (pa_cons (pv 1) (pa_cons (pe_callB (clen_K (K := K) rfl) (by rfl) B.len bt_len (pa_cons (pv 2) pa_nil)) pa_nil))) pa_nil)))))), ?_⟩
  refine fin_pure (b_asg (A := TuI wh) (e_call (a_cons (e_var rfl) a_nil) fun vs F1 s1 a => ?_) fun v F1 s1 hv => ?_) sF q
  · obtain ⟨_, _, rfl, rfl, rfl⟩ := a
    exact ⟨_, wh, rfl, Mo.mo _ _ _ s1 ha, hl, hW, rfl⟩
  · obtain ⟨x, rfl, hx⟩ := id hv
    refine b_ret (Rn.post (e_tup (B := Cn (Is (.ref x)) (Cn (TuI ps) (Is []))) (a_cons (e_var rfl) (a_cons (e_call (a_cons (e_var rfl) (a_cons (e_lenT (e_var rfl) hx) a_nil)) fun vs F2 s2 a => ?_) a_nil)) fun vs F2 a => ?_) fun v F2 s2 h => ?_)
    · obtain ⟨_, _, rfl, rfl, _, _, rfl, rfl, rfl⟩ := a
      exact ⟨(wh.length : Int), _, dT ps, ps, by rw [List.length_map], At.mono _ _ _ _ (s1.trans s2) (tuI_at hb), .inl rfl, hl2, hP, rfl⟩
    · obtain ⟨_, _, rfl, _, _, _, rfl, _, rfl⟩ := a
      show 2 ≤ 1000; decide
    · obtain ⟨q2, us, rfl, hq, _, _, rfl, rfl, y, _, rfl, hy, rfl⟩ := h
      exact ⟨q2, .ref x, y, rfl, hq, Mo.mo _ _ _ s2 hv, hy⟩
def RseeS (M : List Int → List Int → List Int) : List V → Hp → (V → Hp → Prop) → Prop := fun vs F P => ∃ a b w p, vs = [a, b] ∧ TuI w a F ∧ TuI p b F ∧ w.length ≤ 999 ∧ p.length ≤ 999 ∧ IsW w ∧ IsP p (w.length : Int) ∧ P = TuI (M w p)
theorem ok_seen (F : Fun K "seen" "seen" sseen f fd) (B : Bt mg) (cbothsure : Cl P w K mg base "both_sure" 5 ["wheel", "places"] (mkSp RbothSure) f1 fd1) (cseenin : Cl P w K mg base "seen_in" 2 ["wheel", "places"] (mkSp (Rsee seeM)) f2 fd2) :
    FnOk P w K mg base CX0 6 f fd ["wheel", "places"] (mkSp (RseeS seeM)) := by
  refine F.ok scseen (fun vs H Q E h => ?_) (fun cdv A outer s H vs Q E hr h => ?_)
  · obtain ⟨_, _, _, ⟨_, _, _, _, rfl, _⟩, _⟩ := h; rfl
  obtain ⟨F0, P0, sF, ⟨a, b, wh, ps, rfl, ha, hb, hl, hl2, hW, hP, rfl⟩, q⟩ := h
  refine ⟨_, (pss_cons (ps_asg (pe_call cbothsure.G (hr.mono (by omega)) (by rfl) cbothsure.g cbothsure.kp cbothsure.b .nil pass0 (pa_cons (pv 0) (pa_cons (pv 1) pa_nil))) (pg_tupK (K := K) (n := 2) rfl rfl (pgs_cons (pg_name (i := 2) scseen.nd rfl (Or.inl rfl)) (pgs_cons (pg_name (i := 3) scseen.nd rfl (Or.inl rfl)) pgs_nil))))
      (pss_one (ps_ret (pe_call cseenin.G (hr.mono (by omega)) (by rfl) cseenin.g cseenin.kp cseenin.b .nil pass0 (pa_cons (pv 2) (pa_cons (pv 3) pa_nil)))))), ?_⟩
  refine fin_pure (b_two (B := fun x y F => TuI wh x F ∧ TuI ps y F) (e_call (a_cons (e_var rfl) (a_cons (e_var rfl) a_nil)) fun vs F1 s1 a => ?_) fun x y F1 s1 hxy => b_ret (e_call (a_cons (e_var rfl) (a_cons (e_var rfl) a_nil)) fun vs F2 s2 a => ?_)) sF q
  · obtain ⟨_, _, rfl, rfl, _, _, rfl, rfl, rfl⟩ := a
    exact ⟨_, _, wh, ps, rfl, Mo.mo _ _ _ s1 ha, Mo.mo _ _ _ s1 hb, hl, hl2, hW, hP, rfl⟩
  · obtain ⟨_, _, rfl, rfl, _, _, rfl, rfl, rfl⟩ := a
    exact ⟨_, _, wh, ps, rfl, Mo.mo _ _ _ s2 hxy.1, Mo.mo _ _ _ s2 hxy.2, hl, hl2, hP, rfl⟩
theorem ok_strictlyseen (F : Fun K "strictly_seen" "strictly_seen" sstrictlyseen f fd) (B : Bt mg) (cbothsure : Cl P w K mg base "both_sure" 5 ["wheel", "places"] (mkSp RbothSure) f1 fd1) (cstrictlyin : Cl P w K mg base "strictly_in" 2 ["wheel", "places"] (mkSp (Rsee strM)) f2 fd2) :
    FnOk P w K mg base CX0 6 f fd ["wheel", "places"] (mkSp (RseeS strM)) := by
  refine F.ok scstrictlyseen (fun vs H Q E h => ?_) (fun cdv A outer s H vs Q E hr h => ?_)
  · obtain ⟨_, _, _, ⟨_, _, _, _, rfl, _⟩, _⟩ := h; rfl
  obtain ⟨F0, P0, sF, ⟨a, b, wh, ps, rfl, ha, hb, hl, hl2, hW, hP, rfl⟩, q⟩ := h
  refine ⟨_, (pss_cons (ps_asg (pe_call cbothsure.G (hr.mono (by omega)) (by rfl) cbothsure.g cbothsure.kp cbothsure.b .nil pass0 (pa_cons (pv 0) (pa_cons (pv 1) pa_nil))) (pg_tupK (K := K) (n := 2) rfl rfl (pgs_cons (pg_name (i := 2) scstrictlyseen.nd rfl (Or.inl rfl)) (pgs_cons (pg_name (i := 3) scstrictlyseen.nd rfl (Or.inl rfl)) pgs_nil))))
      (pss_one (ps_ret (pe_call cstrictlyin.G (hr.mono (by omega)) (by rfl) cstrictlyin.g cstrictlyin.kp cstrictlyin.b .nil pass0 (pa_cons (pv 2) (pa_cons (pv 3) pa_nil)))))), ?_⟩
  refine fin_pure (b_two (B := fun x y F => TuI wh x F ∧ TuI ps y F) (e_call (a_cons (e_var rfl) (a_cons (e_var rfl) a_nil)) fun vs F1 s1 a => ?_) fun x y F1 s1 hxy => b_ret (e_call (a_cons (e_var rfl) (a_cons (e_var rfl) a_nil)) fun vs F2 s2 a => ?_)) sF q
  · obtain ⟨_, _, rfl, rfl, _, _, rfl, rfl, rfl⟩ := a
    exact ⟨_, _, wh, ps, rfl, Mo.mo _ _ _ s1 ha, Mo.mo _ _ _ s1 hb, hl, hl2, hW, hP, rfl⟩
  · obtain ⟨_, _, rfl, rfl, _, _, rfl, rfl, rfl⟩ := a
    exact ⟨_, _, wh, ps, rfl, Mo.mo _ _ _ s2 hxy.1, Mo.mo _ _ _ s2 hxy.2, hl, hl2, hP, rfl⟩
def intsD : Da → List Int
  | .t ds => ds.map fun d => match d with | .i n => n | _ => 0
  | _ => []
theorem intsD_dT (w : List Int) : intsD (dT w) = w := by
  show (w.map Da.i).map _ = w
  rw [List.map_map]
  exact List.map_id' w
def RallSeen : List V → Hp → (V → Hp → Prop) → Prop := fun vs F P => ∃ a b w1 w2 p, vs = [a, b] ∧ At (.t [dT w1, dT w2]) a F ∧ TuI p b F ∧ w1.length ≤ 999 ∧ p.length ≤ 999 ∧ IsW w1 ∧ IsW w2 ∧ w2.length = w1.length ∧ IsP p (w1.length : Int) ∧ P = At (.t [dT (seeM w1 p), dT (seeM w2 p)])
theorem ok_allseen (F : Fun K "all_seen" "all_seen" sallseen f fd) (B : Bt mg) (csuretrain : Cl P w K mg base "sure_train" 4 ["train"] (mkSp RsureTrain) f1 fd1) (csureplaces : Cl P w K mg base "sure_places" 4 ["places", "ring"] (mkSp RsurePlaces) f2 fd2) (cseenin : Cl P w K mg base "seen_in" 2 ["wheel", "places"] (mkSp (Rsee seeM)) f3 fd3) :
    FnOk P w K mg base CX0 5 f fd ["train", "places"] (mkSp RallSeen) := by
  refine F.ok scallseen (fun vs H Q E h => ?_) (fun cdv A outer s H vs Q E hr h => ?_)
  · obtain ⟨_, _, _, ⟨_, _, _, _, _, rfl, _⟩, _⟩ := h; rfl
  obtain ⟨F0, P0, sF, ⟨a, b, w1, w2, ps, rfl, ha, hb, hl, hl2, h1, h2, he, hP, rfl⟩, q⟩ := h
  refine ⟨_, (pss_cons (ps_set (i := 2) scallseen.nd rfl (Or.inl rfl) (pe_call csuretrain.G (hr.mono (by omega)) (by rfl) csuretrain.g csuretrain.kp csuretrain.b .nil pass0 (pa_cons (pv 0) pa_nil)))
      (pss_cons (ps_set (i := 3) scallseen.nd rfl (Or.inr rfl) (pe_call csureplaces.G (hr.mono (by omega)) (by rfl) csureplaces.g csureplaces.kp csureplaces.b .nil pass0 (pa_cons (pv 1) (pa_cons (pe_callB (clen_K (K := K) rfl) (by rfl) B.len bt_len (pa_cons (pe_ix (ixT_K (K := K) rfl) (pv 2) pe_int (fun _ _ => rfl)) pa_nil)) pa_nil))))
      (pss_one (ps_ret (pe_callTy cl_tup (by rfl) B.tuple bt_tuple (pa_cons (pe_lc (own := [("wheel", 4)]) rfl scallseen.nd (pi_tup (pv 2)) (blkOk_by (own := [("wheel", 4)]) (N := Nallseen) (sc := defScope sallseen) (by decide +kernel)) (fun _ _ _ _ _ => (pg_name (i := 4) scallseen.nd rfl (Or.inl rfl))) (fun _ _ _ _ _ => pts_nil) (fun _ _ _ _ _ => (pe_call cseenin.G (hr.mono (by omega)) (by rfl) cseenin.g cseenin.kp cseenin.b .nil pass0 (pa_cons (pv 4) (pa_cons (pv 3) pa_nil))))) pa_nil)))))), ?_⟩
  refine fin_pure (b_asg (A := At (.t [dT w1, dT w2])) (e_call (a_cons (e_var rfl) a_nil) fun vs F1 s1 a => ?_) fun v F1 s1 hv => ?_) sF q
  · obtain ⟨_, _, rfl, rfl, rfl⟩ := a
    exact ⟨_, w1, w2, rfl, At.mono _ _ _ _ s1 ha, hl, h1, h2, he, rfl⟩
  obtain ⟨p, x, y, rfl, hp, hx, hy⟩ := at_pair hv
  have tx := tuI_iff.mp hx
  obtain ⟨px, rfl, hpx⟩ := id tx
  refine b_asg (A := TuI ps) (e_call (a_cons (e_var rfl) (a_cons (e_lenT (p := px) (e_ixT (e_var rfl) hp e_c (show atI [V.ref px, y] (0 : Int) = some (.ref px) from rfl)) hpx) a_nil)) fun vs F2 s2 a => ?_) fun v2 F2 s2 hv2 => ?_
  · obtain ⟨_, _, rfl, rfl, _, _, rfl, rfl, rfl⟩ := a
    exact ⟨(w1.length : Int), _, dT ps, ps, by rw [List.length_map], At.mono _ _ _ _ (s1.trans s2) (tuI_at hb), .inl rfl, hl2, hP, rfl⟩
  have hxs : AtL [dT w1, dT w2] [.ref px, y] F2 := AtL.mono _ _ _ _ s2 (by rw [atL_cons, atL_cons, atL_nil]; exact ⟨_, _, rfl, hx, _, _, rfl, hy, rfl⟩)
  refine b_ret (Rn.post (e_tupO (lc_at (g := fun d => dT (seeM (intsD d) ps)) (ds := [dT w1, dT w2]) hxs (i_tup (e_var rfl) (s2 _ _ hp)) (by show 2 ≤ 999; decide) (fun _ => rfl) fun d x F3 hd hx3 s3 => Rn.post (P := TuI (seeM (intsD d) ps)) (e_call (a_cons (e_var rfl) (a_cons (e_var rfl) a_nil)) fun vs F4 s4 a => ?_) fun u F4 s4 hu => tuI_at hu)) fun u F3 s3 h => ?_)
  · obtain ⟨_, _, rfl, rfl, _, _, rfl, rfl, rfl⟩ := a
    have hps : TuI ps _ F4 := Mo.mo _ _ _ (s3.trans s4) hv2
    rcases List.mem_cons.mp hd with e | e
    · subst e
      rw [intsD_dT]
      exact ⟨_, _, w1, ps, rfl, tuI_iff.mp (At.mono _ _ _ _ s4 hx3), hps, hl, hl2, hP, rfl⟩
    · have e' := List.mem_singleton.mp e
      subst e'
      rw [intsD_dT]
      exact ⟨_, _, w2, ps, rfl, tuI_iff.mp (At.mono _ _ _ _ s4 hx3), hps, by omega, hl2, by rw [he]; exact hP, rfl⟩
  · have h' : NT (AtL [dT (seeM (intsD (dT w1)) ps), dT (seeM (intsD (dT w2)) ps)]) u F3 := h
    rw [intsD_dT, intsD_dT] at h'
    rw [at_t]
    exact h'
/-! ## places of places -/
def RplacesWithin : List V → Hp → (V → Hp → Prop) → Prop := fun vs F P => ∃ a b n da db p f, vs = [a, .int n, b] ∧ At da a F ∧ (da = dT p ∨ da = dL p) ∧ At db b F ∧ (db = dT f ∨ db = dL f) ∧ p.length ≤ 999 ∧ f.length ≤ 999 ∧ IsP p n ∧ IsP f (p.length : Int) ∧ P = TuI (pick p f)
theorem ok_placeswithin (F : Fun K "places_within" "places_within" splaceswithin f fd) (B : Bt mg) (cisfrom : Cl P w K mg base "is_from" 2 ["thing", "least"] (mkSp RisFrom) f1 fd1) (csureplaces : Cl P w K mg base "sure_places" 4 ["places", "ring"] (mkSp RsurePlaces) f2 fd2) :
    FnOk P w K mg base CX0 5 f fd ["places", "ring", "numbers"] (mkSp RplacesWithin) := by
  refine F.ok scplaceswithin (fun vs H Q E h => ?_) (fun cdv A outer s H vs Q E hr h => ?_)
  · obtain ⟨_, _, _, ⟨_, _, _, _, _, _, _, rfl, _⟩, _⟩ := h; rfl
  obtain ⟨F0, P0, sF, ⟨a, b, n, da, db, ps, fs, rfl, ha, hda, hb, hdb, hl, hl2, hP, hP2, rfl⟩, q⟩ := h
  have hn := hP.npos
  refine ⟨_, (pss_cons (ps_if (pt_not (pt_val (pe_call cisfrom.G (hr.mono (by omega)) (by rfl) cisfrom.g cisfrom.kp cisfrom.b .nil pass0 (pa_cons (pv 1) (pa_cons pe_int pa_nil))))) pss_never pss_nil)
      (pss_cons (ps_set (i := 3) scplaceswithin.nd rfl (Or.inr rfl) (pe_call csureplaces.G (hr.mono (by omega)) (by rfl) csureplaces.g csureplaces.kp csureplaces.b .nil pass0 (pa_cons (pv 0) (pa_cons (pv 1) pa_nil))))
      (pss_one (ps_ret (pe_callTy cl_tup (by rfl) B.tuple bt_tuple (pa_cons (pe_lc (own := [("number", 4)]) rfl scplaceswithin.nd (pi_tup (pe_call csureplaces.G (hr.mono (by omega)) (by rfl) csureplaces.g csureplaces.kp csureplaces.b .nil pass0 (pa_cons (pv 2) (pa_cons (pe_callB (clen_K (K := K) rfl) (by rfl) B.len bt_len (pa_cons (pv 3) pa_nil)) pa_nil)))) (blkOk_by (own := [("number", 4)]) (N := Nplaceswithin) (sc := defScope splaceswithin) (by decide +kernel)) (fun _ _ _ _ _ => (pg_name (i := 4) scplaceswithin.nd rfl (Or.inl rfl))) (fun _ _ _ _ _ => pts_nil) (fun _ _ _ _ _ => (pe_ix (ixT_K (K := K) rfl) (pv 3) (pv 4) (fun _ _ => rfl)))) pa_nil)))))), ?_⟩
  refine fin_pure (b_skip (t_not (t_val (b := true) (e_call (a_cons (e_var rfl) (a_cons e_c a_nil)) fun vs F1 s1 a => ?_))) (b_asg (A := TuI ps) (e_call (a_cons (e_var rfl) (a_cons (e_var rfl) a_nil)) fun vs F1 s1 a => ?_) fun v F1 s1 hv => ?_)) sF q
  · obtain ⟨_, _, rfl, rfl, _, _, rfl, rfl, rfl⟩ := a
    exact ⟨n, 1, rfl, by omega, rfl⟩
  · obtain ⟨_, _, rfl, rfl, _, _, rfl, rfl, rfl⟩ := a
    exact ⟨n, _, da, ps, rfl, At.mono _ _ _ _ s1 ha, hda, hl, hP, rfl⟩
  · obtain ⟨x, rfl, hx⟩ := id hv
    refine b_ret (Rn.post (e_tupO (e_lcI (f := fun k => ga ps k) (i_tupN (A := Is []) (xs := fs.map V.int) (Rn.post (P := TuI fs) (e_call (a_cons (e_var rfl) (a_cons (e_lenT (e_var rfl) hx) a_nil)) fun vs F2 s2 a => ?_) fun u F2 s2 hu => ?_)) hl2 (fun _ => rfl) fun o F2 ho s2 => ?_)) fun u F2 s2 h => nt_tuI h)
    · obtain ⟨_, _, rfl, rfl, _, _, rfl, rfl, rfl⟩ := a
      exact ⟨(ps.length : Int), _, db, fs, by rw [List.length_map], At.mono _ _ _ _ (s1.trans s2) hb, hdb, hl2, hP2, rfl⟩
    · obtain ⟨y, rfl, hy⟩ := hu
      exact ⟨y, _, rfl, hy, rfl⟩
    · have hm := mem_place hP2 ho
      exact e_ixT (e_var rfl) (s2 _ _ hx) (e_var rfl) (atI_ga hm.1 hm.2)
end
end K22
set_option Elab.async false
set_option linter.all false
set_option maxRecDepth 100000
set_option maxHeartbeats 4000000
namespace K22
open PySem PySem.Spec PyProof.Rows L2 RZ
section
variable {P : Program} {w : World} {K : PySem.W.Frag} {mg : Str → Option Value} {base : Heap} {f f1 f2 f3 f4 : Addr} {fd fd1 fd2 fd3 fd4 : FuncData}
/-! ## the law's own reading: led, shift, name ahead -/
def RLled : List V → Hp → (V → Hp → Prop) → Prop := fun vs F P => ∃ a wh z, vs = [a, .int z] ∧ TuI wh a F ∧ 0 < wh.length ∧ wh.length ≤ 999 ∧ P = Is (.int (led wh z))
theorem ok_Lled (F : Fun K "_law_led" "_law_led" sLled f fd) (B : Bt mg) : FnOk P w K mg base CX0 1 f fd ["_law_disk_here", "_law_z"] (mkSp RLled) := by
  refine F.ok scLled (fun vs H Q E h => ?_) (fun cdv A outer s H vs Q E hr h => ?_)
  · obtain ⟨_, _, _, ⟨_, _, _, rfl, _⟩, _⟩ := h; rfl
  obtain ⟨F0, P0, sF, ⟨a, wh, z, rfl, ⟨p, rfl, hp⟩, h0, hl, rfl⟩, q⟩ := h
  have hL : ((wh.map V.int).length : Int) = (wh.length : Int) := by rw [List.length_map]
  have h1 : (0 : Int) < ((wh.map V.int).length : Int) := by omega
  have h2 := Int.emod_nonneg z (Int.ne_of_gt h1)
  have h3 := Int.emod_lt_of_pos z h1
  refine ⟨_, (pss_one (ps_ret (pe_op op_add (pe_ix (ixT_K (K := K) rfl) (pv 0) (pe_op op_mod (pe_callTy cl_int (by rfl) B.int bt_int (pa_cons (pv 1) pa_nil)) (pe_callB (clen_K (K := K) rfl) (by rfl) B.len bt_len (pa_cons (pv 0) pa_nil))) (fun _ _ => rfl)) (pe_op op_mul (pe_op op_fdiv (pv 1) (pe_callB (clen_K (K := K) rfl) (by rfl) B.len bt_len (pa_cons (pv 0) pa_nil))) (pe_callB (clen_K (K := K) rfl) (by rfl) B.len bt_len (pa_cons (pv 0) pa_nil)))))), ?_⟩
  refine fin_pure (b_ret (e_int0 (e_ixT (e_var rfl) hp (e_int (e_i1 (e_var rfl)) (e_lenT (e_var rfl) hp) h1) (atI_ga h2 (by omega))) (e_int (e_int (e_var rfl) (e_lenT (e_var rfl) hp) ⟨h1, by omega⟩) (e_lenT (e_var rfl) hp) (mul_len (by omega))) ?_)) sF q
  show V.int (ga wh (z % ((wh.map V.int).length : Int)) + z / ((wh.map V.int).length : Int) * ((wh.map V.int).length : Int)) = V.int (led wh z)
  rw [hL]
  rfl
def shM (n m : Int) : List Int := (List.range n.toNat).map fun (k : Nat) => (k : Int) + m
def RLshift : List V → Hp → (V → Hp → Prop) → Prop := fun vs F P => ∃ n m : Int, vs = [.int n, .int m] ∧ 0 ≤ n ∧ n ≤ 999 ∧ P = TuI (shM n m)
theorem ok_Lshift (F : Fun K "_law_shift" "_law_shift" sLshift f fd) (B : Bt mg) : FnOk P w K mg base CX0 1 f fd ["_law_ring_so", "_law_m"] (mkSp RLshift) := by
  refine F.ok scLshift (fun vs H Q E h => ?_) (fun cdv A outer s H vs Q E hr h => ?_)
  · obtain ⟨_, _, _, ⟨_, _, rfl, _⟩, _⟩ := h; rfl
  obtain ⟨F0, P0, sF, ⟨n, m, rfl, h0, h1, rfl⟩, q⟩ := h
  refine ⟨_, (pss_one (ps_ret (pe_callTy cl_tup (by rfl) B.tuple bt_tuple (pa_cons (pe_lc (own := [("_law_k", 2)]) rfl scLshift.nd (pi_range1 (by rfl) B.range (pa_cons (pv 0) pa_nil)) (blkOk_by (own := [("_law_k", 2)]) (N := NLshift) (sc := defScope sLshift) (by decide +kernel)) (fun _ _ _ _ _ => (pg_name (i := 2) scLshift.nd rfl (Or.inl rfl))) (fun _ _ _ _ _ => pts_nil) (fun _ _ _ _ _ => (pe_op op_add (pv 2) (pv 1)))) pa_nil)))), ?_⟩
  refine fin_pure (b_ret (Rn.post (e_tupO (e_lcRI (f := fun k => (k : Int) + m) (val := fun i => (i : Int)) (i_rng (e_var rfl) ⟨h0, by omega⟩) (by omega) (fun _ => rfl) fun i F1 hi s1 => e_int0 (e_var rfl) (e_var rfl))) fun v F1 s1 h => nt_tuI h)) sF q
def RLname : List V → Hp → (V → Hp → Prop) → Prop := fun vs F P => ∃ a p n z s, vs = [a, .int n, .int z, .bl s] ∧ TuI p a F ∧ p.length ≤ 999 ∧ 0 < n ∧ n < 1000 ∧ P = Is (.int (namM p n z s))
theorem ok_Lname (F : Fun K "_law_name_ahead" "_law_name_ahead" sLnameahead f fd) (B : Bt mg) : FnOk P w K mg base CX0 1 f fd ["_law_spots_so", "_law_ring_so", "_law_z", "_law_strict_so"] (mkSp RLname) := by
  refine F.ok scLnameahead (fun vs H Q E h => ?_) (fun cdv A outer s H vs Q E hr h => ?_)
  · obtain ⟨_, _, _, ⟨_, _, _, _, _, rfl, _⟩, _⟩ := h; rfl
  obtain ⟨F0, P0, sF, ⟨a, ns, n, z, st, rfl, ⟨p, rfl, hp⟩, hl, h0, h1, rfl⟩, q⟩ := h
  have hx : (ns.map V.int).length ≤ 999 := by rw [List.length_map]; exact hl
  refine ⟨_, (pss_cons (ps_set (i := 4) scLnameahead.nd rfl (Or.inl rfl) (pe_callB (clen_K (K := K) rfl) (by rfl) B.len bt_len (pa_cons (pv 0) pa_nil)))
      (pss_cons (ps_set (i := 5) scLnameahead.nd rfl (Or.inr rfl) (pe_op op_mod (pe_callTy cl_int (by rfl) B.int bt_int (pa_cons (pv 2) pa_nil)) (pv 1)))
      (pss_cons (ps_setLc (i := 6) (own := [("_law_own", 7)]) rfl scLnameahead.nd rfl rfl (sw_true rfl rfl rfl (by decide +kernel)) (pi_tup (pv 0)) (blkOk_by (own := [("_law_own", 7)]) (N := NLnameahead) (sc := defScope sLnameahead) (by decide +kernel)) (fun _ _ _ _ _ => (pg_name (i := 7) scLnameahead.nd rfl (Or.inl rfl))) (fun _ _ _ _ _ => (pts_one (PW.pt (pw_or (pt_cmpR op_lt (pv 7) (pv 5) (nomark _)) (pw_or1 (PW.pt (pw_and (pt_cmpR op_eq (pv 7) (pv 5) (nomark _)) (pw_and1 (pt_not (pt_val (pv 3))))))))))) (fun _ _ _ _ _ => (pv 7)))
      (pss_one (ps_ret (pe_op op_sub (pe_op op_add (pe_op op_mul (pe_op op_fdiv (pv 2) (pv 1)) (pv 4)) (pe_callB (clen_K (K := K) rfl) (by rfl) B.len bt_len (pa_cons (pv 6) pa_nil))) pe_int)))))), ?_⟩
  refine fin_pure (b_asg (e_lenT (e_var rfl) hp) fun v F1 s1 e => ?_) sF q
  cases e
  refine b_asg (e_int (e_i1 (e_var rfl)) (e_var rfl) h0) fun v F2 s2 e => ?_
  cases e
  refine b_asg (e_lcF (f := fun o => decide (o < z % n) || (decide (o = z % n) && !st)) (i_tup (e_var rfl) (s2 _ _ (s1 _ _ hp))) hl (fun _ => rfl) (fun _ => rfl) fun o F3 ho s3 => t_or (t_test (e_int0 (e_var rfl) (e_var rfl))) fun _ => t_and (t_to (t_test (e_eq (e_var rfl) (e_var rfl) rfl)) ?_) fun _ => t_not (t_val (e_var rfl))) fun v F3 s3 hv => ?_
  · exact decide_eq_decide.mpr ⟨fun e => V.int.inj e, fun e => congrArg V.int e⟩
  · obtain ⟨u, us, rfl, hu, e⟩ := hv
    cases e
    refine b_ret (e_int0 (e_int0 (e_int (e_int (e_var rfl) (e_var rfl) ⟨h0, by omega⟩) (e_var rfl) (mul_len hx)) (e_lenL (e_var rfl) hu)) e_c ?_)
    show V.int (z / n * ((ns.map V.int).length : Int) + (((ns.filter fun o => decide (o < z % n) || (decide (o = z % n) && !st)).map V.int).length : Int) - 1) = V.int (namM ns n z st)
    rw [List.length_map, List.length_map]
    rfl
/-! ## lists in the place of tuples (of ints) -/
def RLlists0 : List V → Hp → (V → Hp → Prop) → Prop := fun vs F P => ∃ i : Int, vs = [.int i] ∧ P = Is (.int i)
def RLlists : List V → Hp → (V → Hp → Prop) → Prop := fun vs F P => ∃ v ns, vs = [v] ∧ TuI ns v F ∧ ns.length ≤ 999 ∧ P = LsI ns
theorem ok_Llists0 (F : Fun K "_law_lists" "_law_lists" sLlists f fd) (B : Bt mg) (g : mg "_law_lists" = some (.ref f)) (b : Binds K fd ["_law_matter"] []) : FnOk P w K mg base CX0 1 f fd ["_law_matter"] (mkSp RLlists0) := by
  refine F.ok scLlists (fun vs H Q E h => ?_) (fun cdv A outer s H vs Q E hr h => ?_)
  · obtain ⟨_, _, _, ⟨_, rfl, _⟩, _⟩ := h; rfl
  obtain ⟨F0, P0, sF, ⟨i, rfl, rfl⟩, q⟩ := h
  have cLlists : Cl P w K mg base "_law_lists" 0 ["_law_matter"] (fun _ _ _ _ => False) f fd := ⟨⟨fun _ _ _ _ h => h.elim, fun _ _ _ _ _ _ _ _ _ _ _ _ _ h => h.elim⟩, g, F.kp, b⟩
  refine ⟨_, (pss_one (ps_ret (pe_ifExp (pt_val (pe_callB call_isiT (by rfl) B.isinstance bt_isinstance (pa_cons (pv 0) (pa_cons (pe_tup (pa_cons (pe_bltn (v := .ty "list") (by rfl) B.list bt_list rfl) (pa_cons (pe_bltn (v := .ty "tuple") (by rfl) B.tuple bt_tuple rfl) pa_nil))) pa_nil)))) (pe_lc (own := [("_law_bit", 1)]) rfl scLlists.nd (pi_tup (pv 0)) (blkOk_by (own := [("_law_bit", 1)]) (N := NLlists) (sc := defScope sLlists) (by decide +kernel)) (fun _ _ _ _ _ => (pg_name (i := 1) scLlists.nd rfl (Or.inl rfl))) (fun _ _ _ _ _ => pts_nil) (fun _ _ _ _ _ => (pe_call cLlists.G (hr.mono (by omega)) (by rfl) cLlists.g cLlists.kp cLlists.b .nil pass0 (pa_cons (pv 1) pa_nil)))) (pv 0)))), ?_⟩
  exact fin_pure (b_ret (e_ifF (t_val (e_isiT (e_var rfl) (fun _ _ => ty_int) kIL kIT)) (e_var rfl))) sF q
theorem ok_Llists (F : Fun K "_law_lists" "_law_lists" sLlists f fd) (B : Bt mg) (cLlists : Cl P w K mg base "_law_lists" 1 ["_law_matter"] (mkSp RLlists0) f fd) : FnOk P w K mg base CX0 2 f fd ["_law_matter"] (mkSp RLlists) := by
  refine F.ok scLlists (fun vs H Q E h => ?_) (fun cdv A outer s H vs Q E hr h => ?_)
  · obtain ⟨_, _, _, ⟨_, _, rfl, _⟩, _⟩ := h; rfl
  obtain ⟨F0, P0, sF, ⟨v, ns, rfl, ⟨p, rfl, hp⟩, hl, rfl⟩, q⟩ := h
  refine ⟨_, (pss_one (ps_ret (pe_ifExp (pt_val (pe_callB call_isiT (by rfl) B.isinstance bt_isinstance (pa_cons (pv 0) (pa_cons (pe_tup (pa_cons (pe_bltn (v := .ty "list") (by rfl) B.list bt_list rfl) (pa_cons (pe_bltn (v := .ty "tuple") (by rfl) B.tuple bt_tuple rfl) pa_nil))) pa_nil)))) (pe_lc (own := [("_law_bit", 1)]) rfl scLlists.nd (pi_tup (pv 0)) (blkOk_by (own := [("_law_bit", 1)]) (N := NLlists) (sc := defScope sLlists) (by decide +kernel)) (fun _ _ _ _ _ => (pg_name (i := 1) scLlists.nd rfl (Or.inl rfl))) (fun _ _ _ _ _ => pts_nil) (fun _ _ _ _ _ => (pe_call cLlists.G (hr.mono (by omega)) (by rfl) cLlists.g cLlists.kp cLlists.b .nil pass0 (pa_cons (pv 1) pa_nil)))) (pv 0)))), ?_⟩
  refine fin_pure (b_ret (e_ifT (t_val (e_isiT (e_var rfl) (fun _ s => ty_tup hp s) kTL kTT)) (Rn.post (e_lcI (f := fun o => o) (i_tup (e_var rfl) hp) hl (fun _ => rfl) fun o F1 ho s1 => e_call (a_cons (e_var rfl) a_nil) fun vs F2 s2 a => ?_) fun u F1 s1 h => ?_))) sF q
  · obtain ⟨_, _, rfl, rfl, rfl⟩ := a
    exact ⟨o, rfl, rfl⟩
  · rw [List.map_id'] at h
    exact nl_lsI h
/-! ## equal data -/
def RLsame (k : Nat) : List V → Hp → (V → Hp → Prop) → Prop := fun vs F P => ∃ a b d, vs = [a, b] ∧ At d a F ∧ At d b F ∧ fit k d ∧ P = Is (.bl true)
theorem ok_Lsame (F : Fun K "_law_same" "_law_same" sLsame f fd) (B : Bt mg) : ∀ k : Nat, mg "_law_same" = some (.ref f) → Binds K fd ["_law_got", "_law_due"] [] → FnOk P w K mg base CX0 (k + 1) f fd ["_law_got", "_law_due"] (mkSp (RLsame k)) := by
  have base_int : ∀ {k' : Nat} {sp : Sp} (c : Cl P w K mg base "_law_same" k' ["_law_got", "_law_due"] sp f fd) {A : Around} {outer : List Env} {s : Shared} {H F0 : Hp} {n : Int} {Q : VK} {E : XK} {cdv : Value} (hr : Room k' (A.deeper (envOfC "_law_same" (defScope sLsame) s.heap.objs.size f cdv))) (sF : Same F0 H)
      (q : ∀ v F2 H2, Gr none F0 H F2 H2 → Is (V.bl true) v F2 → Q v H2), ∃ t, PSs (cxOf CX0 P w K mg base NLsame "_law_same" (defScope sLsame) f cdv A outer s H E).nox (defBody sLsame) t ∧ t { nx := fun _ H' => Q .non H', rt := Q } (L2.start NLsame [.int n, .int n]) H := by
    intro k' sp cLsame A outer s H F0 n Q E cdv hr sF q
    refine ⟨_, (pss_cons (ps_if (pt_val (pe_callB call_isiT (by rfl) B.isinstance bt_isinstance (pa_cons (pv 1) (pa_cons (pe_tup (pa_cons (pe_bltn (v := .ty "list") (by rfl) B.list bt_list rfl) (pa_cons (pe_bltn (v := .ty "tuple") (by rfl) B.tuple bt_tuple rfl) pa_nil))) pa_nil)))) (pss_cons (ps_if (PW.pt (pw_or (pt_cmpR op_ne (pe_callB call_isi (by rfl) B.isinstance bt_isinstance (pa_cons (pv 0) (pa_cons (pe_bltn (v := .ty "list") (by rfl) B.list bt_list rfl) pa_nil))) (pe_callB call_isi (by rfl) B.isinstance bt_isinstance (pa_cons (pv 1) (pa_cons (pe_bltn (v := .ty "list") (by rfl) B.list bt_list rfl) pa_nil))) (nomark _)) (pw_or1 (pt_cmpR op_ne (pe_callB call_isi (by rfl) B.isinstance bt_isinstance (pa_cons (pv 0) (pa_cons (pe_bltn (v := .ty "tuple") (by rfl) B.tuple bt_tuple rfl) pa_nil))) (pe_callB call_isi (by rfl) B.isinstance bt_isinstance (pa_cons (pv 1) (pa_cons (pe_bltn (v := .ty "tuple") (by rfl) B.tuple bt_tuple rfl) pa_nil))) (nomark _))))) pss_never pss_nil)
      (pss_one (ps_ret (pe_and (pe_cmpR op_eq (pe_callB (clen_K (K := K) rfl) (by rfl) B.len bt_len (pa_cons (pv 0) pa_nil)) (pe_callB (clen_K (K := K) rfl) (by rfl) B.len bt_len (pa_cons (pv 1) pa_nil)) (nomark _)) (pe_one (pe_callB (cr_all rfl) (by rfl) B.all bt_all (pa_cons (pe_lc (own := [("_law_mine", 2), ("_law_its", 3)]) rfl scLsame.nd (pi_zipA (by rfl) B.zip (pa_cons (pv 0) (pa_cons (pv 1) pa_nil))) (blkOk_by (own := [("_law_mine", 2), ("_law_its", 3)]) (N := NLsame) (sc := defScope sLsame) (by decide +kernel)) (fun _ _ _ _ _ => (pg_tupK (K := K) (n := 2) rfl rfl (pgs_cons (pg_name (i := 2) scLsame.nd rfl (Or.inl rfl)) (pgs_cons (pg_name (i := 3) scLsame.nd rfl (Or.inl rfl)) pgs_nil)))) (fun _ _ _ _ _ => pts_nil) (fun _ _ _ _ _ => (pe_call cLsame.G (hr.mono (by omega)) (by rfl) cLsame.g cLsame.kp cLsame.b .nil pass0 (pa_cons (pv 2) (pa_cons (pv 3) pa_nil))))) pa_nil))))))) pss_nil)
      (pss_cons (ps_if (PW.pt (pw_or (pt_cmp (pc_isN (pv 1))) (pw_or1 (pt_val (pe_callB call_isiT (by rfl) B.isinstance bt_isinstance (pa_cons (pv 1) (pa_cons (pe_tup (pa_cons (pe_bltn (v := .ty "bool") (by rfl) B.bool bt_bool rfl) (pa_cons (pe_bltn (v := .ty "str") (by rfl) B.str bt_str rfl) pa_nil))) pa_nil))))))) (pss_one (ps_ret (pe_and (pe_cmpR op_eq (pv 0) (pv 1) (nomark _)) (pe_and (pe_cmpR op_eq (pe_callB call_isi (by rfl) B.isinstance bt_isinstance (pa_cons (pv 0) (pa_cons (pe_bltn (v := .ty "bool") (by rfl) B.bool bt_bool rfl) pa_nil))) (pe_callB call_isi (by rfl) B.isinstance bt_isinstance (pa_cons (pv 1) (pa_cons (pe_bltn (v := .ty "bool") (by rfl) B.bool bt_bool rfl) pa_nil))) (nomark _)) (pe_one (pe_cmpR op_eq (pe_cmp (pc_isN (pv 0))) (pe_cmp (pc_isN (pv 1))) (nomark _))))))) pss_nil)
      (pss_one (ps_ret (pe_and (pe_callB call_isi (by rfl) B.isinstance bt_isinstance (pa_cons (pv 0) (pa_cons (pe_bltn (v := .ty "int") (by rfl) B.int bt_int rfl) pa_nil))) (pe_and (pe_not (pe_callB call_isi (by rfl) B.isinstance bt_isinstance (pa_cons (pv 0) (pa_cons (pe_bltn (v := .ty "bool") (by rfl) B.bool bt_bool rfl) pa_nil)))) (pe_one (pe_cmpR op_eq (pv 0) (pv 1) (nomark _))))))))), ?_⟩
    refine fin_pure (b_ifR (b := false) (t_val (e_isiT (e_var rfl) (fun _ _ => ty_int) kIL kIT)) (fun e => by cases e) fun _ => b_skip (t_to (t_or (b := false) (t_to (t_val (e_isN (e_var rfl))) rfl) fun _ => t_val (e_isiT (e_var rfl) (fun _ _ => ty_int) kIB kIS)) rfl)
      (b_ret (e_to (v_and (e_isi (e_var rfl) (fun _ _ => ty_int) kII) fun _ => v_and (v_not (e_isi (e_var rfl) (fun _ _ => ty_int) kIB)) fun _ => e_eq (e_var rfl) (e_var rfl) rfl) ?_))) sF q
    rw [decide_eq_true rfl]
    rfl
  intro k
  induction k with
  | zero =>
    intro g b
    refine F.ok scLsame (fun vs H Q E h => ?_) (fun cdv A outer s H vs Q E hr h => ?_)
    · obtain ⟨_, _, _, ⟨_, _, _, rfl, _⟩, _⟩ := h; rfl
    obtain ⟨F0, P0, sF, ⟨a, b', d, rfl, ha, hb, hk, rfl⟩, q⟩ := h
    cases d with
    | i n =>
      rw [at_i] at ha hb
      cases ha; cases hb
      have c : Cl P w K mg base "_law_same" 0 ["_law_got", "_law_due"] (fun _ _ _ _ => False) f fd := ⟨⟨fun _ _ _ _ h => h.elim, fun _ _ _ _ _ _ _ _ _ _ _ _ _ h => h.elim⟩, g, F.kp, b⟩
      exact base_int c hr sF q
    | t ds => exact hk.elim
    | l ds => exact hk.elim
  | succ k ih =>
    intro g b
    have cLsame : Cl P w K mg base "_law_same" (k + 1) ["_law_got", "_law_due"] (mkSp (RLsame k)) f fd := ⟨ih g b, g, F.kp, b⟩
    refine F.ok scLsame (fun vs H Q E h => ?_) (fun cdv A outer s H vs Q E hr h => ?_)
    · obtain ⟨_, _, _, ⟨_, _, _, rfl, _⟩, _⟩ := h; rfl
    obtain ⟨F0, P0, sF, ⟨a, b', d, rfl, ha, hb, hk, rfl⟩, q⟩ := h
    cases d with
    | i n =>
      rw [at_i] at ha hb
      cases ha; cases hb
      exact base_int cLsame hr sF q
    | t ds =>
      rw [at_t] at ha hb
      obtain ⟨p, xs, rfl, hp, hx⟩ := ha
      obtain ⟨p2, ys, rfl, hp2, hy⟩ := hb
      have l1 := hx.len
      have l2 := hy.len
      refine ⟨_, (pss_cons (ps_if (pt_val (pe_callB call_isiT (by rfl) B.isinstance bt_isinstance (pa_cons (pv 1) (pa_cons (pe_tup (pa_cons (pe_bltn (v := .ty "list") (by rfl) B.list bt_list rfl) (pa_cons (pe_bltn (v := .ty "tuple") (by rfl) B.tuple bt_tuple rfl) pa_nil))) pa_nil)))) (pss_cons (ps_if (PW.pt (pw_or (pt_cmpR op_ne (pe_callB call_isi (by rfl) B.isinstance bt_isinstance (pa_cons (pv 0) (pa_cons (pe_bltn (v := .ty "list") (by rfl) B.list bt_list rfl) pa_nil))) (pe_callB call_isi (by rfl) B.isinstance bt_isinstance (pa_cons (pv 1) (pa_cons (pe_bltn (v := .ty "list") (by rfl) B.list bt_list rfl) pa_nil))) (nomark _)) (pw_or1 (pt_cmpR op_ne (pe_callB call_isi (by rfl) B.isinstance bt_isinstance (pa_cons (pv 0) (pa_cons (pe_bltn (v := .ty "tuple") (by rfl) B.tuple bt_tuple rfl) pa_nil))) (pe_callB call_isi (by rfl) B.isinstance bt_isinstance (pa_cons (pv 1) (pa_cons (pe_bltn (v := .ty "tuple") (by rfl) B.tuple bt_tuple rfl) pa_nil))) (nomark _))))) pss_never pss_nil)
      (pss_one (ps_ret (pe_and (pe_cmpR op_eq (pe_callB (clen_K (K := K) rfl) (by rfl) B.len bt_len (pa_cons (pv 0) pa_nil)) (pe_callB (clen_K (K := K) rfl) (by rfl) B.len bt_len (pa_cons (pv 1) pa_nil)) (nomark _)) (pe_one (pe_callB (cr_all rfl) (by rfl) B.all bt_all (pa_cons (pe_lc (own := [("_law_mine", 2), ("_law_its", 3)]) rfl scLsame.nd (pi_zipA (by rfl) B.zip (pa_cons (pv 0) (pa_cons (pv 1) pa_nil))) (blkOk_by (own := [("_law_mine", 2), ("_law_its", 3)]) (N := NLsame) (sc := defScope sLsame) (by decide +kernel)) (fun _ _ _ _ _ => (pg_tupK (K := K) (n := 2) rfl rfl (pgs_cons (pg_name (i := 2) scLsame.nd rfl (Or.inl rfl)) (pgs_cons (pg_name (i := 3) scLsame.nd rfl (Or.inl rfl)) pgs_nil)))) (fun _ _ _ _ _ => pts_nil) (fun _ _ _ _ _ => (pe_call cLsame.G (hr.mono (by omega)) (by rfl) cLsame.g cLsame.kp cLsame.b .nil pass0 (pa_cons (pv 2) (pa_cons (pv 3) pa_nil))))) pa_nil))))))) pss_nil)
      (pss_cons (ps_if (PW.pt (pw_or (pt_cmp (pc_isN (pv 1))) (pw_or1 (pt_val (pe_callB call_isiT (by rfl) B.isinstance bt_isinstance (pa_cons (pv 1) (pa_cons (pe_tup (pa_cons (pe_bltn (v := .ty "bool") (by rfl) B.bool bt_bool rfl) (pa_cons (pe_bltn (v := .ty "str") (by rfl) B.str bt_str rfl) pa_nil))) pa_nil))))))) (pss_one (ps_ret (pe_and (pe_cmpR op_eq (pv 0) (pv 1) (nomark _)) (pe_and (pe_cmpR op_eq (pe_callB call_isi (by rfl) B.isinstance bt_isinstance (pa_cons (pv 0) (pa_cons (pe_bltn (v := .ty "bool") (by rfl) B.bool bt_bool rfl) pa_nil))) (pe_callB call_isi (by rfl) B.isinstance bt_isinstance (pa_cons (pv 1) (pa_cons (pe_bltn (v := .ty "bool") (by rfl) B.bool bt_bool rfl) pa_nil))) (nomark _)) (pe_one (pe_cmpR op_eq (pe_cmp (pc_isN (pv 0))) (pe_cmp (pc_isN (pv 1))) (nomark _))))))) pss_nil)
      (pss_one (ps_ret (pe_and (pe_callB call_isi (by rfl) B.isinstance bt_isinstance (pa_cons (pv 0) (pa_cons (pe_bltn (v := .ty "int") (by rfl) B.int bt_int rfl) pa_nil))) (pe_and (pe_not (pe_callB call_isi (by rfl) B.isinstance bt_isinstance (pa_cons (pv 0) (pa_cons (pe_bltn (v := .ty "bool") (by rfl) B.bool bt_bool rfl) pa_nil)))) (pe_one (pe_cmpR op_eq (pv 0) (pv 1) (nomark _))))))))), ?_⟩
      refine fin_pure (b_ifR (b := true) (t_val (e_isiT (e_var rfl) (fun _ s => ty_tup hp2 s) kTL kTT)) (fun _ => b_skip (t_to (t_or (b := false) (t_to (t_test (e_ne (e_isi (e_var rfl) (fun _ s => ty_tup hp s) kTL) (e_isi (e_var rfl) (fun _ s => ty_tup hp2 s) kTL) rfl)) rfl) fun _ => t_test (e_ne (e_isi (e_var rfl) (fun _ s => ty_tup hp s) kTT) (e_isi (e_var rfl) (fun _ s => ty_tup hp2 s) kTT) rfl)) rfl)
        (b_ret (e_to (v_and (e_eq (e_lenT (e_var rfl) hp) (e_lenT (e_var rfl) hp2) rfl) fun _ => e_all (e_lcZA (len := ds.length) (by omega) (i_zipT (nt_of (e_var rfl) hp) (nt_of (e_var rfl) hp2)) hk.1 (fun _ _ => rfl) fun i x y F1 hx1 hy1 s1 => e_call (a_cons (e_var rfl) (a_cons (e_var rfl) a_nil)) fun vs F2 s2 a => ?_)) ?_))) fun e => by cases e) sF q
      · obtain ⟨_, _, rfl, rfl, _, _, rfl, rfl, rfl⟩ := a
        obtain ⟨d, hd, h1⟩ := hx.get hx1
        obtain ⟨d', hd', h2⟩ := hy.get hy1
        have e : d' = d := Option.some.inj (hd'.symm.trans hd)
        subst e
        exact ⟨_, _, d', rfl, At.mono _ _ _ _ (s1.trans s2) h1, At.mono _ _ _ _ (s1.trans s2) h2, hk.2 d' (List.mem_of_getElem? hd), rfl⟩
      · rw [l1, l2, decide_eq_true rfl]; rfl
    | l ds =>
      rw [at_l] at ha hb
      obtain ⟨p, xs, rfl, hp, hx⟩ := ha
      obtain ⟨p2, ys, rfl, hp2, hy⟩ := hb
      have l1 := hx.len
      have l2 := hy.len
      refine ⟨_, (pss_cons (ps_if (pt_val (pe_callB call_isiT (by rfl) B.isinstance bt_isinstance (pa_cons (pv 1) (pa_cons (pe_tup (pa_cons (pe_bltn (v := .ty "list") (by rfl) B.list bt_list rfl) (pa_cons (pe_bltn (v := .ty "tuple") (by rfl) B.tuple bt_tuple rfl) pa_nil))) pa_nil)))) (pss_cons (ps_if (PW.pt (pw_or (pt_cmpR op_ne (pe_callB call_isi (by rfl) B.isinstance bt_isinstance (pa_cons (pv 0) (pa_cons (pe_bltn (v := .ty "list") (by rfl) B.list bt_list rfl) pa_nil))) (pe_callB call_isi (by rfl) B.isinstance bt_isinstance (pa_cons (pv 1) (pa_cons (pe_bltn (v := .ty "list") (by rfl) B.list bt_list rfl) pa_nil))) (nomark _)) (pw_or1 (pt_cmpR op_ne (pe_callB call_isi (by rfl) B.isinstance bt_isinstance (pa_cons (pv 0) (pa_cons (pe_bltn (v := .ty "tuple") (by rfl) B.tuple bt_tuple rfl) pa_nil))) (pe_callB call_isi (by rfl) B.isinstance bt_isinstance (pa_cons (pv 1) (pa_cons (pe_bltn (v := .ty "tuple") (by rfl) B.tuple bt_tuple rfl) pa_nil))) (nomark _))))) pss_never pss_nil)
      (pss_one (ps_ret (pe_and (pe_cmpR op_eq (pe_callB (clen_K (K := K) rfl) (by rfl) B.len bt_len (pa_cons (pv 0) pa_nil)) (pe_callB (clen_K (K := K) rfl) (by rfl) B.len bt_len (pa_cons (pv 1) pa_nil)) (nomark _)) (pe_one (pe_callB (cr_all rfl) (by rfl) B.all bt_all (pa_cons (pe_lc (own := [("_law_mine", 2), ("_law_its", 3)]) rfl scLsame.nd (pi_zipA (by rfl) B.zip (pa_cons (pv 0) (pa_cons (pv 1) pa_nil))) (blkOk_by (own := [("_law_mine", 2), ("_law_its", 3)]) (N := NLsame) (sc := defScope sLsame) (by decide +kernel)) (fun _ _ _ _ _ => (pg_tupK (K := K) (n := 2) rfl rfl (pgs_cons (pg_name (i := 2) scLsame.nd rfl (Or.inl rfl)) (pgs_cons (pg_name (i := 3) scLsame.nd rfl (Or.inl rfl)) pgs_nil)))) (fun _ _ _ _ _ => pts_nil) (fun _ _ _ _ _ => (pe_call cLsame.G (hr.mono (by omega)) (by rfl) cLsame.g cLsame.kp cLsame.b .nil pass0 (pa_cons (pv 2) (pa_cons (pv 3) pa_nil))))) pa_nil))))))) pss_nil)
      (pss_cons (ps_if (PW.pt (pw_or (pt_cmp (pc_isN (pv 1))) (pw_or1 (pt_val (pe_callB call_isiT (by rfl) B.isinstance bt_isinstance (pa_cons (pv 1) (pa_cons (pe_tup (pa_cons (pe_bltn (v := .ty "bool") (by rfl) B.bool bt_bool rfl) (pa_cons (pe_bltn (v := .ty "str") (by rfl) B.str bt_str rfl) pa_nil))) pa_nil))))))) (pss_one (ps_ret (pe_and (pe_cmpR op_eq (pv 0) (pv 1) (nomark _)) (pe_and (pe_cmpR op_eq (pe_callB call_isi (by rfl) B.isinstance bt_isinstance (pa_cons (pv 0) (pa_cons (pe_bltn (v := .ty "bool") (by rfl) B.bool bt_bool rfl) pa_nil))) (pe_callB call_isi (by rfl) B.isinstance bt_isinstance (pa_cons (pv 1) (pa_cons (pe_bltn (v := .ty "bool") (by rfl) B.bool bt_bool rfl) pa_nil))) (nomark _)) (pe_one (pe_cmpR op_eq (pe_cmp (pc_isN (pv 0))) (pe_cmp (pc_isN (pv 1))) (nomark _))))))) pss_nil)
      (pss_one (ps_ret (pe_and (pe_callB call_isi (by rfl) B.isinstance bt_isinstance (pa_cons (pv 0) (pa_cons (pe_bltn (v := .ty "int") (by rfl) B.int bt_int rfl) pa_nil))) (pe_and (pe_not (pe_callB call_isi (by rfl) B.isinstance bt_isinstance (pa_cons (pv 0) (pa_cons (pe_bltn (v := .ty "bool") (by rfl) B.bool bt_bool rfl) pa_nil)))) (pe_one (pe_cmpR op_eq (pv 0) (pv 1) (nomark _))))))))), ?_⟩
      refine fin_pure (b_ifR (b := true) (t_val (e_isiT (e_var rfl) (fun _ s => ty_lst hp2 s) kLL kLT)) (fun _ => b_skip (t_to (t_or (b := false) (t_to (t_test (e_ne (e_isi (e_var rfl) (fun _ s => ty_lst hp s) kLL) (e_isi (e_var rfl) (fun _ s => ty_lst hp2 s) kLL) rfl)) rfl) fun _ => t_test (e_ne (e_isi (e_var rfl) (fun _ s => ty_lst hp s) kLT) (e_isi (e_var rfl) (fun _ s => ty_lst hp2 s) kLT) rfl)) rfl)
        (b_ret (e_to (v_and (e_eq (e_lenL (e_var rfl) hp) (e_lenL (e_var rfl) hp2) rfl) fun _ => e_all (e_lcZA (len := ds.length) (by omega) (i_zipL (nl_of (e_var rfl) hp) (nl_of (e_var rfl) hp2)) hk.1 (fun _ _ => rfl) fun i x y F1 hx1 hy1 s1 => e_call (a_cons (e_var rfl) (a_cons (e_var rfl) a_nil)) fun vs F2 s2 a => ?_)) ?_))) fun e => by cases e) sF q
      · obtain ⟨_, _, rfl, rfl, _, _, rfl, rfl, rfl⟩ := a
        obtain ⟨d, hd, h1⟩ := hx.get hx1
        obtain ⟨d', hd', h2⟩ := hy.get hy1
        have e : d' = d := Option.some.inj (hd'.symm.trans hd)
        subst e
        exact ⟨_, _, d', rfl, At.mono _ _ _ _ (s1.trans s2) h1, At.mono _ _ _ _ (s1.trans s2) h2, hk.2 d' (List.mem_of_getElem? hd), rfl⟩
      · rw [l1, l2, decide_eq_true rfl]; rfl
end
end K22
set_option Elab.async false
set_option linter.all false
set_option maxRecDepth 100000
set_option maxHeartbeats 4000000
namespace K22
open PySem PySem.Spec PyProof.Rows L2 RZ
section
variable {P : Program} {w : World} {K : PySem.W.Frag} {mg : Str → Option Value} {base : Heap} {f f1 f2 f3 f4 : Addr} {fd fd1 fd2 fd3 fd4 : FuncData}
/-! ## a draw: some number from 0 to below - 1; the tin stays a list of three numbers -/
def Dr (b : Int) : V → Hp → Prop := fun v _ => ∃ r : Int, v = .int r ∧ 0 ≤ r ∧ r < b
instance (b : Int) : Mo (Dr b) := ⟨fun _ _ _ _ h => h⟩
def RLtake : List V → Hp → Addr → Nat → Nat → (V → Hp → Prop) → Prop := fun vs _ t n m P => ∃ b : Int, vs = [.ref t, .int b] ∧ 0 < b ∧ b ≤ 1000 ∧ n ≤ 1000000 ∧ m = n + 1 ∧ P = Dr b
theorem ok_Ltake (F : Fun K "_law_take" "_law_take" sLtake f fd) (B : Bt mg) : FnOk P w K mg base CX0 1 f fd ["_law_tin", "_law_below_so"] (mkSpT RLtake) := by
  refine F.ok scLtake (fun vs H Q E h => ?_) (fun cdv A outer s H vs Q E hr h => ?_)
  · obtain ⟨_, _, _, _, _, _, _, ⟨_, rfl, _⟩, _⟩ := h; rfl
  obtain ⟨F0, t, n, m, P0, sF, tn, ⟨b, rfl, h0, h1, hn, rfl, rfl⟩, q⟩ := h
  obtain ⟨hf, x, y, z, ht, z0, z1⟩ := tn t rfl
  refine ⟨_, (pss_cons (ps_if (pt_cmpR op_gt (pe_ix (ixL_K (K := K) rfl) (pv 0) pe_int (fun _ _ => rfl)) pe_int (nomark _)) (pss_cons (ps_set (i := 2) scLtake.nd rfl (Or.inl rfl) (pe_op op_mod (pe_callTy cl_int (by rfl) B.int bt_int (pa_cons (pe_ix (ixL_K (K := K) rfl) (pv 0) pe_int (fun _ _ => rfl)) pa_nil)) (pv 1)))
      (pss_cons (ps_asg (pe_op op_fdiv (pe_ix (ixL_K (K := K) rfl) (pv 0) pe_int (fun _ _ => rfl)) (pv 1)) (pg_sub (pv 0) pe_int set_list))
      (pss_one (ps_ret (pv 2))))) pss_nil)
      (pss_cons (ps_asg (pe_op op_add (pe_ix (ixL_K (K := K) rfl) (pv 0) pe_int (fun _ _ => rfl)) pe_int) (pg_sub (pv 0) pe_int set_list))
      (pss_cons (ps_set (i := 3) scLtake.nd rfl (Or.inl rfl) (pe_op op_mod (pe_callTy cl_int (by rfl) B.int bt_int (pa_cons (pe_op op_mul (pe_op op_add (pe_ix (ixL_K (K := K) rfl) (pv 0) pe_int (fun _ _ => rfl)) (pe_op op_mul pe_int (pe_ix (ixL_K (K := K) rfl) (pv 0) pe_int (fun _ _ => rfl)))) (pe_op op_add pe_int (pe_ix (ixL_K (K := K) rfl) (pv 0) pe_int (fun _ _ => rfl)))) pa_nil)) pe_int))
      (pss_cons (ps_set (i := 4) scLtake.nd rfl (Or.inl rfl) (pe_op op_add (pe_op op_mod (pe_callTy cl_int (by rfl) B.int bt_int (pa_cons (pv 3) pa_nil)) pe_int) pe_int))
      (pss_cons (ps_set (i := 5) scLtake.nd rfl (Or.inl rfl) (pe_op op_mod (pe_callTy cl_int (by rfl) B.int bt_int (pa_cons (pe_op op_mul (pe_op op_add (pe_op op_add (pv 3) (pe_ix (ixL_K (K := K) rfl) (pv 0) pe_int (fun _ _ => rfl))) (pe_op op_fdiv (pe_ix (ixL_K (K := K) rfl) (pv 0) pe_int (fun _ _ => rfl)) pe_int)) (pv 4)) pa_nil)) pe_int))
      (pss_one (ps_ret (pe_op op_mod (pe_callTy cl_int (by rfl) B.int bt_int (pa_cons (pe_op op_fdiv (pe_op op_mod (pe_callTy cl_int (by rfl) B.int bt_int (pa_cons (pe_op op_add (pe_op op_mul (pv 5) pe_int) (pv 3)) pa_nil)) pe_int) pe_int) pa_nil)) (pv 1))))))))), ?_⟩
  have bd : CDiv x b := ⟨h0, by omega⟩
  refine x_if (b := decide (0 < x)) sF ht (t_test (e_int0 (i := x) (j := 0) (e_ixL (e_var rfl) upd_same e_c rfl) e_c)) (fun c H1 g1 t1 => ?_) fun c H1 g1 t1 => ?_
  · refine x_asg g1.fh t1 (e_int (e_i1 (e_ixL (v := .int x) (e_var rfl) upd_same e_c rfl)) (e_var rfl) h0) fun H2 g2 t2 => ?_
    refine x_sub g2.fh t2 (e_int (e_ixL (v := .int x) (e_var rfl) upd_same e_c rfl) (e_var rfl) bd) (e_var rfl) e_c (m := 0) rfl fun H3 g3 t3 => ?_
    have g := (((g1.trans g2).trans g3).lift (T := some t)).put (o := .lst [.int (x / b), .int y, .int z]) (.inr rfl) hf
    have e : ([V.int x, V.int y, V.int z].set 0 (V.int (x / b))) = [V.int (x / b), V.int y, V.int z] := rfl
    rw [e]
    refine x_ret g.fh upd_same (v := .int (x % b)) (e_var rfl) fun H4 g4 t4 => ?_
    exact q _ F0 H4 (g.trans g4.lift) (fun a ea => by cases ea; exact ⟨hf, _, _, _, t4, z0, by omega⟩) ⟨_, rfl, Int.emod_nonneg _ (by omega), Int.emod_lt_of_pos _ h0⟩
  · refine x_sub g1.fh t1 (e_int0 (e_ixL (v := .int z) (e_var rfl) upd_same e_c rfl) e_c) (e_var rfl) e_c (m := 2) rfl fun H2 g2 t2 => ?_
    have g := ((g1.trans g2).lift (T := some t)).put (o := .lst [.int x, .int y, .int (z + 1)]) (.inr rfl) hf
    have e : ([V.int x, V.int y, V.int z].set 2 (V.int (z + 1))) = [V.int x, V.int y, V.int (z + 1)] := rfl
    rw [e]
    have tp : upd H2 t (.lst [.int x, .int y, .int (z + 1)]) t = some (.lst [.int x, .int y, .int (z + 1)]) := upd_same
    have sp := g.fh
    generalize upd H2 t (.lst [.int x, .int y, .int (z + 1)]) = H3 at g tp sp ⊢
    refine x_asg sp tp (v := .int (((y + 48271 * (z + 1)) * (39373 + (z + 1))) % 2147483647)) (e_int (e_i1 (e_int (e_int0 (e_ixL (v := .int y) (e_var rfl) upd_same e_c rfl) (e_int e_c (e_ixL (v := .int (z + 1)) (e_var rfl) upd_same e_c rfl) (.inl ⟨by decide, by decide⟩))) (e_int0 e_c (e_ixL (v := .int (z + 1)) (e_var rfl) upd_same e_c rfl)) (.inr ⟨by omega, by omega⟩))) e_c (by decide)) fun H4 g4 t4 => ?_
    generalize ((y + 48271 * (z + 1)) * (39373 + (z + 1))) % 2147483647 = o1
    refine x_asg g4.fh t4 (v := .int (o1 % 40009 + 7)) (e_int0 (e_int (e_i1 (e_var rfl)) e_c (by decide)) e_c) fun H5 g5 t5 => ?_
    have w0 : 0 ≤ o1 % 40009 := Int.emod_nonneg _ (by decide)
    have w1 : o1 % 40009 < 40009 := Int.emod_lt_of_pos _ (by decide)
    generalize o1 % 40009 = o2 at w0 w1 ⊢
    refine x_asg g5.fh t5 (v := .int (((o1 + (z + 1) + y / 1000003) * (o2 + 7)) % 2147483629)) (e_int (e_i1 (e_int (e_int0 (e_int0 (e_var rfl) (e_ixL (v := .int (z + 1)) (e_var rfl) upd_same e_c rfl)) (e_int (e_ixL (v := .int y) (e_var rfl) upd_same e_c rfl) e_c ⟨by decide, by decide⟩)) (e_var rfl) (.inr ⟨by omega, by omega⟩))) e_c (by decide)) fun H6 g6 t6 => ?_
    generalize ((o1 + (z + 1) + y / 1000003) * (o2 + 7)) % 2147483629 = o3
    refine x_ret g6.fh t6 (v := .int (((o3 * 48271 + o1) % 2147483587 / 64) % b)) (e_int (e_i1 (e_int (e_int (e_i1 (e_int0 (e_int (e_var rfl) e_c (.inr ⟨by decide, by decide⟩)) (e_var rfl))) e_c (by decide)) e_c ⟨by decide, by decide⟩)) (e_var rfl) h0) fun H7 g7 t7 => ?_
    exact q _ F0 H7 (g.trans (((g4.trans g5).trans g6).trans g7).lift) (fun a ea => by cases ea; exact ⟨hf, _, _, _, t7, by omega, by omega⟩) ⟨_, rfl, Int.emod_nonneg _ (by omega), Int.emod_lt_of_pos _ h0⟩
end
end K22
set_option Elab.async false
set_option linter.all false
set_option maxRecDepth 100000
set_option maxHeartbeats 1000000
namespace K22
open PySem PySem.Spec PyProof.Rows L2 RZ
section
variable {P : Program} {w : World} {K : PySem.W.Frag} {mg : Str → Option Value} {base : Heap} {f f1 f2 f3 f4 : Addr} {fd fd1 fd2 fd3 fd4 : FuncData}
/-! ## the tin of a number -/
def spBox : Sp := fun vs H Q _ => ∃ F c cs k, Same F H ∧ vs = [.ref c, .int k] ∧ F c = some (.lst ((cs : List Int).map V.int)) ∧ 0 ≤ k ∧ k < (cs.length : Int) ∧ cs.length ≤ 999 ∧
  ∀ x y p H2, H p = none → Gr none F H F H2 → H2 p = some (.lst [.int x, .int y, .int 0]) → Q (.ref p) H2
theorem ok_Lbox (F : Fun K "_law_box" "_law_box" sLbox f fd) (B : Bt mg) : FnOk P w K mg base CX0 1 f fd ["_law_script", "_law_k"] spBox := by
  refine F.ok scLbox (fun vs H Q E h => ?_) (fun cdv A outer s H vs Q E hr h => ?_)
  · obtain ⟨_, _, _, _, _, rfl, _⟩ := h; rfl
  obtain ⟨F0, c, cs, k, sF, rfl, hc, k0, k1, hl, q⟩ := h
  refine ⟨_, (pss_cons (ps_set (i := 2) scLbox.nd rfl (Or.inl rfl) (pe_ifExp (pt_cmpR op_lt (pv 1) (pe_callB (clen_K (K := K) rfl) (by rfl) B.len bt_len (pa_cons (pv 0) pa_nil)) (nomark _)) (pe_ix (ixL_K (K := K) rfl) (pv 0) (pv 1) (fun _ _ => rfl)) pe_int))
      (pss_one (ps_ret (pe_lst (pa_cons (pe_op op_mul (pe_callB cl_abs (by rfl) B.abs bt_abs (pa_cons (pv 2) pa_nil)) (pe_callTy cl_int (by rfl) B.int bt_int (pa_cons (pe_cmpR op_ge (pe_callB cl_abs (by rfl) B.abs bt_abs (pa_cons (pv 2) pa_nil)) (pe_op op_pow pe_int pe_int) (nomark _)) pa_nil))) (pa_cons (pe_op op_add (pe_op op_add (pe_op op_mod (pe_callTy cl_int (by rfl) B.int bt_int (pa_cons (pv 2) pa_nil)) pe_int) (pe_op op_mul pe_int (pv 1))) pe_int) (pa_cons pe_int pa_nil))))))), ?_⟩
  refine y_asg (n := 0) (m := 0) sF tn0 (e_ifT (t_to (t_test (e_int0 (i := k) (j := ((cs.map V.int).length : Int)) (e_var rfl) (e_lenL (e_var rfl) hc))) (decide_eq_true (by rw [List.length_map]; exact k1))) (e_ixL (e_var rfl) hc (e_var rfl) (atI_ga k0 k1))) fun v F1 H1 g1 _ e => ?_
  cases e
  generalize ga cs k = bit
  refine y_retL (n := 0) (m := 0) g1.fh tn0 (a_cons (n_mulB (n_abs (n_is (e_var rfl))) (n_i1b (n_ge (n_abs (n_is (e_var rfl))) (n_op2 e_c e_c ?_)))) (a_cons (n_op0 (n_op0 (n_op (n_i1 (n_is (e_var rfl))) e_c fun i => ?_) (n_opL e_c (n_is (e_var rfl)) fun i => ?_)) n_c) (a_cons e_c a_nil))) (fun vs F2 a => ?_) fun vs F2 H2 p g2 _ a hp => ?_
  · exact ⟨by decide, by decide, by decide⟩
  · show (0 : Int) < 2305843009213693951
    decide
  · exact .inl ⟨by decide, by decide⟩
  · obtain ⟨_, _, rfl, ⟨x, rfl⟩, _, _, rfl, ⟨y, rfl⟩, _, _, rfl, rfl, rfl⟩ := a
    show 3 ≤ 1000
    decide
  · obtain ⟨_, _, rfl, ⟨x, rfl⟩, _, _, rfl, ⟨y, rfl⟩, _, _, rfl, rfl, rfl⟩ := a
    have g := Gr.drop (T := none) sF (g1.trans g2)
    have hp0 : H p = none := g.free hp
    exact q _ _ p _ hp0 (g.mut hp0 (sF.free hp0)) upd_same
end
end K22
set_option Elab.async false
set_option linter.all false
set_option maxRecDepth 100000
set_option maxHeartbeats 1000000
namespace K22
open PySem PySem.Spec PyProof.Rows L2 RZ
section
variable {P : Program} {w : World} {K : PySem.W.Frag} {mg : Str → Option Value} {base : Heap} {f f1 f2 f3 f4 : Addr} {fd fd1 fd2 fd3 fd4 : FuncData}
/-! ## the first numbers of the script, the later ones added -/
def spCells (K : PySem.W.Frag) : Sp := fun vs H Q _ => ∃ a ns, vs = [.ref a, .int 2] ∧ SqL K H a ((ns : List Int).map V.int) ∧ ns.length ≤ 63 ∧
  ∀ (cs : List Int) p H2, 0 < cs.length → cs.length ≤ 2 → H p = none → Same H H2 → H2 p = some (.lst (cs.map V.int)) → Q (.ref p) H2
theorem cutV_map (ns : List Int) (lo hi : Option Int) : ∃ ms : List Int, cutV (ns.map V.int) lo hi = ms.map V.int ∧ ms = (ns.drop (HT.sIx ns.length 0 lo)).take (HT.sIx ns.length ns.length hi - HT.sIx ns.length 0 lo) := by
  refine ⟨_, ?_, rfl⟩
  unfold cutV
  rw [List.length_map, ← List.map_drop, ← List.map_take]
theorem ok_Lcells (F : Fun K "_law_cells" "_law_cells" sLcells f fd) (B : Bt mg) : FnOk P w K mg base CX0 1 f fd ["_law_script", "_law_most_so"] (spCells K) := by
  refine F.ok scLcells (fun vs H Q E h => ?_) (fun cdv A outer s H vs Q E hr h => ?_)
  · obtain ⟨_, _, rfl, _⟩ := h; rfl
  obtain ⟨a, ns, rfl, hS, hl, q⟩ := h
  refine ⟨_, (pss_cons (ps_set (i := 2) scLcells.nd rfl (Or.inl rfl) (pe_orT (pe_callTy cl_lst (by rfl) B.list bt_list (pa_cons (pe_slice sl_list (pv 0) po_none (po_some (pv 1))) pa_nil)) (pe_one (pe_lst (pa_cons pe_int pa_nil)))))
      (pss_cons (ps_for PassesOwn.never rfl (pi_enum (by rfl) B.enumerate (pa_cons (pe_slice sl_list (pv 0) (po_some (pv 1)) (po_some pe_int)) pa_nil)) (pg_tupK (K := K) (n := 2) rfl rfl (pgs_cons (pg_name (i := 3) scLcells.nd rfl (Or.inl rfl)) (pgs_cons (pg_name (i := 4) scLcells.nd rfl (Or.inl rfl)) pgs_nil))) (pss_cons (ps_set (i := 5) scLcells.nd rfl (Or.inl rfl) (pe_op op_mod (pe_callTy cl_int (by rfl) B.int bt_int (pa_cons (pv 3) pa_nil)) (pv 1)))
      (pss_one (ps_asg (pe_op op_add (pe_ix (ixL_K (K := K) rfl) (pv 2) (pv 5) (fun _ _ => rfl)) (pe_op op_mul (pv 4) (pe_op op_add (pv 3) pe_int))) (pg_sub (pv 2) (pv 5) set_list)))))
      (pss_one (ps_ret (pv 2))))), ?_⟩
  -- what follows the first row
  have rest : ∀ (cs : List Int) (c : Addr) (H1 : Hp) (D : Ends), (∀ v H', D.rt v H' = Q v H') → 0 < cs.length → cs.length ≤ 2 → (cs.length = 2 ∨ ns.length ≤ 2) → H c = none → Same H H1 → H1 c = some (.lst (cs.map V.int)) →
      tSeq (tFor (iEnum K (tCons (tSl (rSlL K) (tVar 0) (tPart (tVar 1)) (tPart (tC (.int 63)))) tNil)) (gTup K 2 (gCons (gName 3) (gCons (gName 4) gNil))) (tSeq (tAsg (tOp (rI (fun _ j => 0 < j) fun i j => .int (i % j)) (tCB rInt1 (tCons (tVar 3) tNil)) (tVar 1)) (gName 5)) (tAsg (tOp (rI0 fun i j => .int (i + j)) (tOp (rIxL K) (tVar 2) (tVar 5)) (tOp (rI CMul fun i j => .int (i * j)) (tVar 4) (tOp (rI0 fun i j => .int (i + j)) (tVar 3) (tC (.int 2))))) (gSub (tVar 2) (tVar 5) rSetL)))) (tRet (tVar 2)) D [some (.ref a), some (.int 2), some (.ref c), none, none, none] H1 := by
    intro cs c H1 D hD c0 c2 c3 hc s1 e1
    obtain ⟨ms, em, em2⟩ := cutV_map ns (some 2) (some 63)
    refine ⟨.ref a, rfl, .int 2, rfl, 2, rfl, 63, rfl, a, ns.map V.int, rfl, s1.seq hS, fun p hp => ?_⟩
    have npc : c ≠ p := ne_of_none e1 hp
    refine ⟨p, _, rfl, .inl (.inl upd_same), ?_⟩
    rw [em]
    refine ⟨fun i m σ H3 => ∃ y3 y4 y5 cs', σ = [some (.ref a), some (.int 2), some (.ref c), y3, y4, y5] ∧ i + m = ms.length ∧ Same H H3 ∧ H3 p = some (.lst (ms.map V.int)) ∧ H3 c = some (.lst ((cs' : List Int).map V.int)) ∧ cs'.length = cs.length,
      ⟨ms.length, none, none, none, cs, rfl, by omega, fun b o e => ?_, upd_same, ?_, rfl⟩, fun i m σ H3 hW => ?_⟩
    · rw [upd_ne (ne_of_none (s1 b o e) hp)]; exact s1 b o e
    · rw [upd_ne npc]; exact e1
    · obtain ⟨y3, y4, y5, cs', rfl, eim, s3, ep, ec, ecl⟩ := hW
      by_cases hi : i < ms.length
      · have hg : (ms.map V.int)[i]? = some (.int ms[i]) := by rw [List.getElem?_map, List.getElem?_eq_getElem hi]; rfl
        have h2 : cs.length = 2 := by
          rcases c3 with z | z
          · exact z
          · have : ms.length = 0 := by
              rw [em2, List.length_take, List.length_drop, show HT.sIx ns.length 0 (some 2) = min 2 ns.length from HT.sIx_nat ns.length 0 2]
              omega
            omega
        refine .inr ⟨⟨_, _, .inl (.inl ep), hg⟩, fun σ' H' => ∃ y3 y4 y5 cs', σ' = [some (.ref a), some (.int 2), some (.ref c), y3, y4, y5] ∧ Same H H' ∧ H' p = some (.lst (ms.map V.int)) ∧ H' c = some (.lst ((cs' : List Int).map V.int)) ∧ cs'.length = cs.length, fun σ' H' hN => ?_, fun v H' hy => ?_⟩
        · obtain ⟨z3, z4, z5, cs2, e, r⟩ := hN
          exact ⟨m - 1, by omega, z3, z4, z5, cs2, e, by omega, r⟩
        · obtain ⟨t, x, rfl, nt, rfl, fx⟩ := hy
          have ex : x = .int ms[i] := Option.some.inj ((fx _ (.inl (.inl ep))).symm.trans hg)
          subst ex
          have ntc : c ≠ t := ne_of_none ec nt
          have ntp : p ≠ t := ne_of_none ep nt
          refine ⟨t, [.int (i : Nat), .int ms[i]], rfl, .inl (.inl upd_same), rfl, .int (i : Nat), [.int ms[i]], rfl, .int ms[i], [], rfl, rfl, ?_⟩
          have ec' : (upd H3 t (.tup [.int (i : Nat), .int ms[i]])) c = some (.lst (cs'.map V.int)) := by rw [upd_ne ntc]; exact ec
          have ep' : (upd H3 t (.tup [.int (i : Nat), .int ms[i]])) p = some (.lst (ms.map V.int)) := by rw [upd_ne ntp]; exact ep
          have s3' : Same H (upd H3 t (.tup [.int (i : Nat), .int ms[i]])) := fun b o e => by rw [upd_ne (ne_of_none (s3 b o e) nt)]; exact s3 b o e
          have s0 : Same (fun _ => none) (upd H3 t (.tup [.int (i : Nat), .int ms[i]])) := fun b o e => by cases e
          have i0 : 0 ≤ (i : Int) % 2 := Int.emod_nonneg _ (by decide)
          have i1 : (i : Int) % 2 < 2 := Int.emod_lt_of_pos _ (by decide)
          have hlen : ms.length ≤ 63 := by
            rw [em2, List.length_take, List.length_drop]; omega
          refine x_asg s0 ec' (v := .int ((i : Int) % 2)) (e_int (e_i1 (e_var rfl)) (e_var rfl) (by show (0 : Int) < 2; decide)) fun H4 g4 t4 => ?_
          refine x_sub1 g4.fh t4 (j := (i : Int) % 2) (m := ((i : Int) % 2).toNat) (e_int0 (e_ixL (e_var rfl) upd_same (e_var rfl) (atI_ga i0 (by omega))) (e_int (e_var rfl) (e_int0 (e_var rfl) e_c) (.inr ⟨by omega, by omega⟩))) (e_var rfl) (e_var rfl) (ixN_in i0 (by rw [List.length_map]; omega)) fun H5 g5 t5 => ?_
          have g := g4.trans g5
          refine ⟨_, _, _, cs'.set ((i : Int) % 2).toNat (ga cs' ((i : Int) % 2) + ms[i] * ((i : Int) + 2)), rfl, fun b o e => ?_, ?_, ?_, ?_⟩
          · have hb : b ≠ c := ne_of_none e hc
            rw [upd_ne hb]
            exact g.hh b o (by simp) (s3' b o e)
          · rw [upd_ne npc.symm]
            exact g.hh p _ (by simp) ep'
          · rw [upd_same, List.map_set]
          · rw [List.length_set]; exact ecl
      · refine .inl ⟨⟨_, .inl (.inl ep), by rw [List.length_map]; omega⟩, ?_⟩
        refine ⟨.ref c, rfl, ?_⟩
        show D.rt (.ref c) H3
        rw [hD]
        exact q cs' c H3 (by omega) (by omega) hc s3 ec
  -- the first row: list(script[:most]) or [0]
  obtain ⟨ms, em, em2⟩ := cutV_map ns none (some 2)
  refine ⟨.ref a, rfl, .int 2, rfl, 2, rfl, a, ns.map V.int, rfl, hS, fun p hp => ?_⟩
  rw [em]
  have el : ms.length = min 2 ns.length := by
    rw [em2, List.length_take, List.length_drop, HT.sIx_none, show HT.sIx ns.length ns.length (some 2) = min 2 ns.length from HT.sIx_nat ns.length ns.length 2]
    omega
  refine ⟨p, ms.map V.int, rfl, .inl (.inl (.inl upd_same)), fun c hc => ?_⟩
  have hcp : H c = none := by
    have := hc
    by_cases e : c = p
    · subst e; exact hp
    · rw [upd_ne e] at this; exact this
  have sc : Same H (upd (upd H p (.lst (ms.map V.int))) c (.lst (ms.map V.int))) := fun b o e => by
    rw [upd_ne (ne_of_none e hcp), upd_ne (ne_of_none e hp)]; exact e
  refine ⟨!(ms.map V.int).isEmpty, .inl ⟨ms.map V.int, .inl (.inl upd_same), rfl⟩, ?_⟩
  cases ms with
  | nil =>
    refine iteF ?_
    refine ⟨by show 1 ≤ sizeLine; decide, fun d hd => ?_⟩
    have hd0 : H d = none := sc.free hd
    refine rest [0] d _ _ (fun _ _ => rfl) (by decide) (by decide) (.inr (by simp at el; omega)) hd0 (fun b o e => ?_) upd_same
    rw [upd_ne (ne_of_none e hd0)]
    exact sc b o e
  | cons x r =>
    refine iteT ?_
    refine rest (x :: r) c _ _ (fun _ _ => rfl) (by simp) (by rw [el]; omega) ?_ hcp sc upd_same
    rw [el]
    omega
end
end K22
set_option Elab.async false
set_option linter.all false
set_option maxRecDepth 100000
set_option maxHeartbeats 1000000
namespace K22
open PySem PySem.Spec PyProof.Rows L2 RZ
section
variable {P : Program} {w : World} {K : PySem.W.Frag} {mg : Str → Option Value} {base : Heap} {f f1 f2 f3 f4 : Addr} {fd fd1 fd2 fd3 fd4 : FuncData}
/-! ## different ones, drawn -/
def PK (c : Int) (ns ms : List Int) : Prop := ms.length = min c.toNat ns.length ∧ ∃ rs, (ms ++ rs).Perm ns
def PkL (Z : List Int → Prop) : List V → Hp → Prop := fun vs _ => ∃ ns : List Int, vs = ns.map V.int ∧ Z ns
instance (Z : List Int → Prop) : Mo (PkL Z) := ⟨fun _ _ _ _ h => h⟩
def RLpick : List V → Hp → Addr → Nat → Nat → (V → Hp → Prop) → Prop := fun vs F t n m P => ∃ g ns c, vs = [.ref t, .ref g, .int c] ∧ F g = some (.lst ((ns : List Int).map V.int)) ∧ 0 ≤ c ∧ c ≤ 1000 ∧ ns.length ≤ 100 ∧ n ≤ 900000 ∧ m = n + 100 ∧ ∀ v F, NL (PkL (PK c ns)) v F → P v F
theorem pop_perm : ∀ (l : List Int) (k : Nat) (h : k < l.length), (l[k] :: l.eraseIdx k).Perm l
  | a :: l, 0, _ => List.Perm.refl _
  | a :: l, k + 1, h => by
    have hk : k < l.length := by simpa using h
    have ih := pop_perm l k hk
    show ((l[k]'hk) :: a :: l.eraseIdx k).Perm (a :: l)
    exact (List.Perm.swap a (l[k]'hk) _).trans (List.Perm.cons a ih)
theorem erase_map {α β : Type} (f : α → β) : ∀ (l : List α) (k : Nat), (l.map f).eraseIdx k = (l.eraseIdx k).map f
  | [], _ => rfl
  | a :: l, 0 => rfl
  | a :: l, k + 1 => by
    show f a :: (l.map f).eraseIdx k = f a :: (l.eraseIdx k).map f
    rw [erase_map f l k]
theorem perm_pop {ms rs ns : List Int} {k : Nat} (h : (ms ++ rs).Perm ns) (hk : k < rs.length) : (ms ++ [rs[k]] ++ rs.eraseIdx k).Perm ns := by
  rw [List.append_assoc]
  refine List.Perm.trans (List.Perm.append_left ms ?_) h
  exact pop_perm rs k hk
theorem ok_Lpick (F : Fun K "_law_pick" "_law_pick" sLpick f fd) (B : Bt mg) (cLtake : Cl P w K mg base "_law_take" 1 ["_law_tin", "_law_below_so"] (mkSpT RLtake) f1 fd1) : FnOk P w K mg base CX0 2 f fd ["_law_tin", "_law_goods_so", "_law_count_so"] (mkSpT RLpick) := by
  refine F.ok scLpick (fun vs H Q E h => ?_) (fun cdv A outer s H vs Q E hr h => ?_)
  · obtain ⟨_, _, _, _, _, _, _, ⟨_, _, _, rfl, _⟩, _⟩ := h; rfl
  obtain ⟨F0, t, n, m, P0, sF, tn, ⟨g, ns, c, rfl, hg, c0, c1, hl, hn, rfl, hP0⟩, q⟩ := h
  have hft : F0 t = none := (tn t rfl).1
  have hfT : ∀ a, some t = some a → F0 a = none := fun a e => by cases e; exact hft
  refine ⟨_, (pss_cons (ps_par (i := 3) (j := 4) rfl scLpick.nd rfl rfl (by decide) rfl rfl (pa_cons (pe_callTy cl_lst (by rfl) B.list bt_list (pa_cons (pv 1) pa_nil)) (pa_cons (pe_lst pa_nil) pa_nil)) (by rfl))
      (pss_cons (ps_for PassesOwn.never rfl (pi_range1 (by rfl) B.range (pa_cons (pe_callB (cl_min rfl) (by rfl) B.min bt_min (pa_cons (pe_callTy cl_int (by rfl) B.int bt_int (pa_cons (pv 2) pa_nil)) (pa_cons (pe_callB (clen_K (K := K) rfl) (by rfl) B.len bt_len (pa_cons (pv 3) pa_nil)) pa_nil))) pa_nil)) (pg_name (i := 5) scLpick.nd rfl (Or.inl rfl)) (pss_one (ps_expr (pe_bm PySem.F.plainAttrs_list PySem.F.slot_list_append PySem.F.type_list_append mt_append (pv 4) (pa_cons (pe_bm PySem.F.plainAttrs_list PySem.F.slot_list_pop PySem.F.type_list_pop mt_popAt (pv 3) (pa_cons (pe_call cLtake.G (hr.mono (by omega)) (by rfl) cLtake.g cLtake.kp cLtake.b .nil pass0 (pa_cons (pv 0) (pa_cons (pe_callB (clen_K (K := K) rfl) (by rfl) B.len bt_len (pa_cons (pv 3) pa_nil)) pa_nil))) pa_nil)) pa_nil)))))
      (pss_one (ps_ret (pv 4))))), ?_⟩
  refine ⟨.ref g, rfl, g, ns.map V.int, rfl, .inl (.inl (.inl (sF _ _ hg))), fun p hp => ⟨Nat.zero_le _, fun o ho => ⟨.ref p, .ref o, rfl, ?_⟩⟩⟩
  have hop : o ≠ p := fun e => by rw [e, upd_same] at ho; cases ho
  have ho0 : H o = none := by rw [upd_ne hop] at ho; exact ho
  have fp : F0 p = none := sF.free hp
  have fo : F0 o = none := sF.free ho0
  have tp : (some t : Option Addr) ≠ some p := Tn.ne (t := tn) hp
  have to : (some t : Option Addr) ≠ some o := Tn.ne (t := tn) ho0
  have htp : t ≠ p := fun e => tp (congrArg some e)
  have hto : t ≠ o := fun e => to (congrArg some e)
  have g1 : Gr (some t) F0 H F0 (upd (upd H p (.lst (ns.map V.int))) o (.lst [])) := ((Gr.refl sF).mut hp fp).mut ho0 fo
  have tn1 : Tn (some t) n F0 (upd (upd H p (.lst (ns.map V.int))) o (.lst [])) := (tn.write tp).write to
  have e1 : (upd (upd H p (.lst (ns.map V.int))) o (.lst [])) p = some (.lst (ns.map V.int)) := by rw [upd_ne hop.symm]; exact upd_same
  have e2 : (upd (upd H p (.lst (ns.map V.int))) o (.lst [])) o = some (.lst []) := upd_same
  generalize upd (upd H p (.lst (ns.map V.int))) o (.lst []) = H1 at g1 tn1 e1 e2 ⊢
  have hL : ((ns.map V.int).length : Int) = (ns.length : Int) := by rw [List.length_map]
  refine q_forR (F := upd F0 p (.lst (ns.map V.int))) (same_know g1.fh e1) (e_min (e_i1 (e_var rfl)) (e_lenL (e_var rfl) upd_same)) (by rw [hL]; split <;> omega) (fun i σ' H' => ∃ y5 ms rs, σ' = [some (.ref t), some (.ref g), some (.int c), some (.ref p), some (.ref o), y5] ∧ Gr (some t) F0 H F0 H' ∧ Tn (some t) (n + i) F0 H' ∧ H' p = some (.lst ((rs : List Int).map V.int)) ∧ H' o = some (.lst ((ms : List Int).map V.int)) ∧ ms.length = i ∧ (ms ++ rs).Perm ns) (fun H2 g2 => ?_) (fun i σ' H' hi hP => ?_) fun σ' H' hP => ?_
  · have g2' := Gr.drop (T := none) g1.fh g2
    exact ⟨none, [], ns, rfl, g1.trans g2'.lift, tn1.keep g2', g2.at (by simp) e1, g2.at (by simp) e2, rfl, List.Perm.refl _⟩
  · obtain ⟨y5, ms, rs, rfl, gr, tni, ep, eo, hms, pm⟩ := hP
    have hle := pm.length_eq
    rw [List.length_append] at hle
    have hi2 : i < ns.length := by
      rw [hL] at hi
      split at hi <;> omega
    have hrs : 0 < rs.length := by omega
    have hLr : ((rs.map V.int).length : Int) = (rs.length : Int) := by rw [List.length_map]
    refine ⟨.ref o, rfl, .inl ⟨rfl, _, .inl (.inl eo)⟩, .ref p, rfl, .inl ⟨rfl, _, .inl (.inl ep)⟩, ?_⟩
    refine (a_cons (A := Dr (rs.length : Int)) (e_callT (t0 := t) (n := n + i) (m := n + i) (l := n + i + 1) (a_cons (e_var rfl) (a_cons (e_lenL (p := p) (e_var rfl) upd_same) a_nil)) (fun vs F1 s1 a => ?_)) a_nil) (upd F0 p (.lst (rs.map V.int))) H' (Same.refl _) (same_know gr.fh ep) (tni.know tp) _ fun vs F2 H2 g2 tn2 a => ?_
    · obtain ⟨_, _, rfl, rfl, _, _, rfl, rfl, rfl⟩ := a
      exact ⟨(rs.length : Int), by rw [hLr], by omega, by omega, by omega, rfl, rfl⟩
    · obtain ⟨_, _, rfl, ⟨r, rfl, r0, r1⟩, rfl⟩ := a
      have hk : r.toNat < rs.length := by omega
      have ep2 : H2 p = some (.lst (rs.map V.int)) := g2.at tp ep
      have eo2 : H2 o = some (.lst (ms.map V.int)) := g2.at to eo
      have hix := ixN_seq (ixN_in (n := (rs.map V.int).length) r0 (by rw [hLr]; exact r1))
      refine ⟨p, rs.map V.int, r, r.toNat, .int rs[r.toNat], rfl, rfl, ep2, by omega, by omega, hix.1, ?_, ?_⟩
      · rw [List.getElem?_map, List.getElem?_eq_getElem hk]; rfl
      · refine ⟨o, ms.map V.int, .int rs[r.toNat], rfl, rfl, ?_, small1000 (by rw [List.length_map]; omega), ?_⟩
        · rw [upd_ne hop]; exact eo2
        · refine ⟨_, ms ++ [rs[r.toNat]], rs.eraseIdx r.toNat, rfl, ((gr.trans (Gr.dropT gr.fh hfT g2)).mut hp fp).mut ho0 fo, fun a e => ?_, ?_, ?_, ?_, perm_pop pm hk⟩
          · cases e
            obtain ⟨_, x, y, z, h1, h2⟩ := tn2 t rfl
            exact ⟨hft, x, y, z, by rw [upd_ne hto, upd_ne htp]; exact h1, h2⟩
          · rw [upd_ne hop.symm, upd_same, erase_map]
          · rw [upd_same, List.map_append]; rfl
          · rw [List.length_append, hms]; rfl
  · obtain ⟨y5, ms, rs, rfl, gr, tni, ep, eo, hms, pm⟩ := hP
    refine ⟨.ref o, rfl, ?_⟩
    have hN : ms.length = min c.toNat ns.length := by
      rw [hms, hL]
      split <;> omega
    refine q (.ref o) (upd F0 o (.lst (ms.map V.int))) H' (gr.know ho0 fo eo) ((tni.le ?_).know to) (hP0 _ _ ⟨o, _, rfl, upd_same, ms, rfl, hN, rs, pm⟩)
    rw [← hms]
    omega
end
end K22
set_option Elab.async false
set_option linter.all false
set_option maxRecDepth 100000
set_option maxHeartbeats 1000000
namespace K22
open PySem PySem.Spec PyProof.Rows L2 RZ
section
variable {P : Program} {w : World} {K : PySem.W.Frag} {mg : Str → Option Value} {base : Heap} {f f1 f2 f3 f4 : Addr} {fd fd1 fd2 fd3 fd4 : FuncData}
/-! ## two wheels put together -/
def RLput : List V → Hp → (V → Hp → Prop) → Prop := fun vs F P => ∃ v d o, vs = [v] ∧ At (.t [dT d, dT o]) v F ∧ 0 < d.length ∧ d.length ≤ 999 ∧ 0 < o.length ∧ o.length ≤ 999 ∧ P = TuI (putM d o)
theorem putM_take (d o : List Int) {i : Nat} (h : i < d.length) : (putM d o).take (i + 1) = (putM d o).take i ++ [led d (led o (i : Int))] := by
  have hl : i < (putM d o).length := by rw [putM_len]; exact h
  rw [take_snoc hl]
  have e : (putM d o)[i] = led d (led o (i : Int)) := by
    have := putM_get (d := d) (o := o) h
    rw [List.getD_eq_getElem?_getD, List.getElem?_eq_getElem hl] at this
    exact this
  rw [e]
theorem ok_Lput (F : Fun K "_law_put" "_law_put" sLput f fd) (B : Bt mg) (cLled : Cl P w K mg base "_law_led" 1 ["_law_disk_here", "_law_z"] (mkSp RLled) f1 fd1) : FnOk P w K mg base CX0 2 f fd ["_law_disks"] (mkSp RLput) := by
  refine F.ok scLput (fun vs H Q E h => ?_) (fun cdv A outer s H vs Q E hr h => ?_)
  · obtain ⟨_, _, _, ⟨_, _, _, rfl, _⟩, _⟩ := h; rfl
  obtain ⟨F0, P0, sF, ⟨v, d, o, rfl, hv, d0, d1, o0, o1, rfl⟩, q⟩ := h
  obtain ⟨dp, x, y, rfl, hdp, hx, hy⟩ := at_pair hv
  have tx := tuI_iff.mp hx
  have ty := tuI_iff.mp hy
  obtain ⟨px, rfl, hpx⟩ := id tx
  refine ⟨_, (pss_cons (ps_set (i := 1) scLput.nd rfl (Or.inl rfl) (pe_lst pa_nil))
      (pss_cons (ps_for PassesOwn.never rfl (pi_range1 (by rfl) B.range (pa_cons (pe_callB (clen_K (K := K) rfl) (by rfl) B.len bt_len (pa_cons (pe_ix (ixT_K (K := K) rfl) (pv 0) pe_int (fun _ _ => rfl)) pa_nil)) pa_nil)) (pg_name (i := 2) scLput.nd rfl (Or.inl rfl)) (pss_cons (ps_for PassesOwn.never rfl (pi_tup (pe_revT (pv 0))) (pg_name (i := 3) scLput.nd rfl (Or.inl rfl)) (pss_one (ps_set (i := 2) scLput.nd rfl (Or.inl rfl) (pe_call cLled.G (hr.mono (by omega)) (by rfl) cLled.g cLled.kp cLled.b .nil pass0 (pa_cons (pv 3) (pa_cons (pv 2) pa_nil))))))
      (pss_one (ps_expr (pe_bm PySem.F.plainAttrs_list PySem.F.slot_list_append PySem.F.type_list_append mt_append (pv 1) (pa_cons (pv 2) pa_nil))))))
      (pss_one (ps_ret (pe_callTy cl_tup (by rfl) B.tuple bt_tuple (pa_cons (pv 1) pa_nil)))))), ?_⟩
  refine ⟨Nat.zero_le _, fun l hl => ?_⟩
  have fl : F0 l = none := sF.free hl
  have g1 : Gr none F0 H F0 (upd H l (.lst [])) := (Gr.refl sF).mut hl fl
  have e1 : (upd H l (.lst [])) l = some (.lst []) := upd_same
  generalize upd H l (.lst []) = H1 at g1 e1 ⊢
  have hL : ((d.map V.int).length : Int) = (d.length : Int) := by rw [List.length_map]
  refine q_forR g1.fh (e_lenT (p := px) (e_ixT (e_var rfl) hdp e_c (show atI [V.ref px, y] (0 : Int) = some (.ref px) from rfl)) hpx) (by rw [hL]; omega)
    (fun i σ' H' => ∃ y2 y3, σ' = [some (.ref dp), some (.ref l), y2, y3] ∧ Gr none F0 H F0 H' ∧ H' l = some (.lst (((putM d o).take i).map V.int))) (fun H2 g2 => ?_) (fun i σ' H' hi hP => ?_) fun σ' H' hP => ?_
  · exact ⟨none, none, rfl, g1.trans g2, g2.at (by simp) e1⟩
  · obtain ⟨y2, y3, rfl, gr, el⟩ := hP
    have hi2 : i < d.length := by rw [hL] at hi; omega
    refine ⟨.ref dp, rfl, dp, .ref px, y, rfl, .inl (.inl (gr.fh _ _ hdp)), fun r hr' => ?_⟩
    have hr0 : H r = none := gr.free hr'
    have frn : F0 r = none := gr.fh.free hr'
    have nlr : l ≠ r := ne_of_none el hr'
    have g3 : Gr none F0 H F0 (upd H' r (.tup [y, .ref px])) := gr.mut hr0 frn
    have er : (upd H' r (.tup [y, .ref px])) r = some (.tup [y, .ref px]) := upd_same
    have el3 : (upd H' r (.tup [y, .ref px])) l = some (.lst (((putM d o).take i).map V.int)) := by rw [upd_ne nlr]; exact el
    generalize upd H' r (.tup [y, .ref px]) = H3 at g3 er el3 ⊢
    refine ⟨r, rfl, ⟨_, .inl (.inl er)⟩, for_tup (xs := [y, .ref px]) (fun j σ2 H4 => ∃ y3 zz, σ2 = [some (.ref dp), some (.ref l), some (.int zz), y3] ∧ Gr none F0 H F0 H4 ∧ H4 l = some (.lst (((putM d o).take i).map V.int)) ∧ H4 r = some (.tup [y, .ref px]) ∧ zz = (if j = 0 then (i : Int) else if j = 1 then led o (i : Int) else led d (led o (i : Int)))) ?_ (fun j σ2 H4 _ h => ?_) (fun j u σ2 H4 hu h => ?_) fun σ2 H4 h => ?_⟩
    · exact ⟨y3, (i : Int), rfl, g3, el3, er, rfl⟩
    · obtain ⟨_, _, _, _, _, e, _⟩ := h
      exact .inl (.inl e)
    · obtain ⟨y4, zz, rfl, g4, el4, er4, ez⟩ := h
      match j, hu, ez with
      | 0, hu, ez =>
        have eu : y = u := Option.some.inj hu
        have ez' : zz = (i : Int) := ez
        subst eu ez'
        refine y_asg1 (n := 0) (m := 0) (P := Is (.int (led o (i : Int)))) g4.fh tn0 (e_call (a_cons (e_var rfl) (a_cons (e_var rfl) a_nil)) fun vs F2 s2 a => ?_) fun v F2 H5 g5 _ e => ?_
        · obtain ⟨_, _, rfl, rfl, _, _, rfl, rfl, rfl⟩ := a
          exact ⟨_, o, (i : Int), rfl, Mo.mo _ _ _ s2 ty, o0, o1, rfl⟩
        · cases e
          have g6 := Gr.drop (T := none) g4.fh g5
          exact ⟨_, led o (i : Int), rfl, g4.trans g6, g6.at (by simp) el4, g6.at (by simp) er4, rfl⟩
      | 1, hu, ez =>
        have eu : V.ref px = u := Option.some.inj hu
        have ez' : zz = led o (i : Int) := ez
        subst eu ez'
        refine y_asg1 (n := 0) (m := 0) (P := Is (.int (led d (led o (i : Int))))) g4.fh tn0 (e_call (a_cons (e_var rfl) (a_cons (e_var rfl) a_nil)) fun vs F2 s2 a => ?_) fun v F2 H5 g5 _ e => ?_
        · obtain ⟨_, _, rfl, rfl, _, _, rfl, rfl, rfl⟩ := a
          exact ⟨_, d, led o (i : Int), rfl, Mo.mo _ _ _ s2 tx, d0, d1, rfl⟩
        · cases e
          have g6 := Gr.drop (T := none) g4.fh g5
          exact ⟨_, led d (led o (i : Int)), rfl, g4.trans g6, g6.at (by simp) el4, g6.at (by simp) er4, rfl⟩
      | j + 2, hu, ez => exact absurd hu (by simp)
    · obtain ⟨y4, zz, rfl, g4, el4, er4, ez⟩ := h
      have ez' : zz = led d (led o (i : Int)) := ez
      subst ez'
      refine w_app (n := 0) (m := 0) (P := Is (.int (led d (led o (i : Int))))) g4 tn0 el4 fl hl (by simp) rfl (e_var rfl) ?_ fun v F2 H5 g5 s5 f5 _ e h5 => ?_
      · rw [List.length_map, List.length_take, putM_len]; omega
      · cases e
        refine ⟨_, _, rfl, ⟨Same.refl _, g5.hh, s5.trans g5.fh, fun a e => .inl e, g5.st⟩, ?_⟩
        rw [h5, putM_take d o hi2, List.map_append]
        rfl
  · obtain ⟨y2, y3, rfl, gr, el⟩ := hP
    have eN : (((d.map V.int).length : Int)).toNat = (putM d o).length := by rw [hL, putM_len]; omega
    rw [eN, List.take_length] at el
    refine y_ret (n := 0) (m := 0) (F := upd F0 l (.lst ((putM d o).map V.int))) (same_know gr.fh el) tn0 (e_tupK (e_var rfl) upd_same) fun v F2 H2 g2 _ h => ?_
    have gg : Gr none F0 H F2 H2 := (gr.know hl fl el).trans g2
    exact q v F2 H2 gg (nt_tuI h)
/-! ## the law's own seen -/
def RLseen : List V → Hp → (V → Hp → Prop) → Prop := fun vs F P => ∃ a b wh p s, vs = [a, b, .bl s] ∧ TuI wh a F ∧ TuI p b F ∧ 0 < wh.length ∧ wh.length ≤ 999 ∧ p.length ≤ 999 ∧ P = TuI (lseM wh p s)
theorem lseM_take (wh p : List Int) (s : Bool) {i : Nat} (h : i < p.length) : (lseM wh p s).take (i + 1) = (lseM wh p s).take i ++ [namM p (wh.length : Int) (led wh (ga p (i : Int))) s] := by
  have hl : i < (lseM wh p s).length := by rw [lseM_len]; exact h
  rw [take_snoc hl]
  have e : (lseM wh p s)[i] = namM p (wh.length : Int) (led wh (ga p (i : Int))) s := by
    have := getD_range (f := fun (i : Nat) => namM p (wh.length : Int) (led wh (ga p (i : Int))) s) h
    have e2 : (lseM wh p s).getD i 0 = namM p (wh.length : Int) (led wh (ga p (i : Int))) s := this
    rw [List.getD_eq_getElem?_getD, List.getElem?_eq_getElem hl] at e2
    exact e2
  rw [e]
theorem ok_Lseen (F : Fun K "_law_seen" "_law_seen" sLseen f fd) (B : Bt mg) (cLled : Cl P w K mg base "_law_led" 1 ["_law_disk_here", "_law_z"] (mkSp RLled) f1 fd1) (cLnameahead : Cl P w K mg base "_law_name_ahead" 1 ["_law_spots_so", "_law_ring_so", "_law_z", "_law_strict_so"] (mkSp RLname) f2 fd2) :
    FnOk P w K mg base CX0 2 f fd ["_law_disk_here", "_law_spots_so", "_law_strict_so"] (mkSp RLseen) := by
  refine F.ok scLseen (fun vs H Q E h => ?_) (fun cdv A outer s H vs Q E hr h => ?_)
  · obtain ⟨_, _, _, ⟨_, _, _, _, _, rfl, _⟩, _⟩ := h; rfl
  obtain ⟨F0, P0, sF, ⟨a, b, wh, ps, st, rfl, ha, hb, w0, w1, p1, rfl⟩, q⟩ := h
  obtain ⟨x, rfl, hx⟩ := id ha
  obtain ⟨y, rfl, hy⟩ := id hb
  refine ⟨_, (pss_cons (ps_set (i := 3) scLseen.nd rfl (Or.inl rfl) (pe_lst pa_nil))
      (pss_cons (ps_for PassesOwn.never rfl (pi_range1 (by rfl) B.range (pa_cons (pe_callB (clen_K (K := K) rfl) (by rfl) B.len bt_len (pa_cons (pv 1) pa_nil)) pa_nil)) (pg_name (i := 4) scLseen.nd rfl (Or.inl rfl)) (pss_one (ps_expr (pe_bm PySem.F.plainAttrs_list PySem.F.slot_list_append PySem.F.type_list_append mt_append (pv 3) (pa_cons (pe_call cLnameahead.G (hr.mono (by omega)) (by rfl) cLnameahead.g cLnameahead.kp cLnameahead.b .nil pass0 (pa_cons (pv 1) (pa_cons (pe_callB (clen_K (K := K) rfl) (by rfl) B.len bt_len (pa_cons (pv 0) pa_nil)) (pa_cons (pe_call cLled.G (hr.mono (by omega)) (by rfl) cLled.g cLled.kp cLled.b .nil pass0 (pa_cons (pv 0) (pa_cons (pe_ix (ixT_K (K := K) rfl) (pv 1) (pv 4) (fun _ _ => rfl)) pa_nil))) (pa_cons (pv 2) pa_nil))))) pa_nil)))))
      (pss_one (ps_ret (pe_callTy cl_tup (by rfl) B.tuple bt_tuple (pa_cons (pv 3) pa_nil)))))), ?_⟩
  refine ⟨Nat.zero_le _, fun l hl => ?_⟩
  have fl : F0 l = none := sF.free hl
  have g1 : Gr none F0 H F0 (upd H l (.lst [])) := (Gr.refl sF).mut hl fl
  have e1 : (upd H l (.lst [])) l = some (.lst []) := upd_same
  generalize upd H l (.lst []) = H1 at g1 e1 ⊢
  have hL : ((ps.map V.int).length : Int) = (ps.length : Int) := by rw [List.length_map]
  have hW : ((wh.map V.int).length : Int) = (wh.length : Int) := by rw [List.length_map]
  refine q_forR g1.fh (e_lenT (e_var rfl) hy) (by rw [hL]; omega)
    (fun i σ' H' => ∃ y4, σ' = [some (.ref x), some (.ref y), some (.bl st), some (.ref l), y4] ∧ Gr none F0 H F0 H' ∧ H' l = some (.lst (((lseM wh ps st).take i).map V.int))) (fun H2 g2 => ?_) (fun i σ' H' hi hP => ?_) fun σ' H' hP => ?_
  · exact ⟨none, rfl, g1.trans g2, g2.at (by simp) e1⟩
  · obtain ⟨y4, rfl, gr, el⟩ := hP
    have hi2 : i < ps.length := by rw [hL] at hi; omega
    refine w_app (n := 0) (m := 0) (P := Is (.int (namM ps (wh.length : Int) (led wh (ga ps (i : Int))) st))) gr tn0 el fl hl (by simp) rfl (e_call (a_cons (e_var rfl) (a_cons (e_lenT (e_var rfl) hx) (a_cons (A := Is (.int (led wh (ga ps (i : Int))))) (e_call (a_cons (e_var rfl) (a_cons (e_ixT (e_var rfl) hy (e_var rfl) (atI_ga (by omega) (by omega))) a_nil)) fun vs F2 s2 a => ?_) (a_cons (e_var rfl) a_nil)))) fun vs F2 s2 a => ?_) ?_ fun v F2 H5 g5 s5 f5 _ e h5 => ?_
    · obtain ⟨_, _, rfl, rfl, _, _, rfl, rfl, rfl⟩ := a
      exact ⟨_, wh, ga ps (i : Int), rfl, Mo.mo _ _ _ s2 ha, w0, w1, rfl⟩
    · obtain ⟨_, _, rfl, rfl, _, _, rfl, rfl, _, _, rfl, rfl, _, _, rfl, rfl, rfl⟩ := a
      exact ⟨_, ps, (wh.length : Int), led wh (ga ps (i : Int)), st, by rw [hW], Mo.mo _ _ _ s2 hb, p1, by omega, by omega, rfl⟩
    · rw [List.length_map, List.length_take, lseM_len]; omega
    · cases e
      refine ⟨_, rfl, ⟨Same.refl _, g5.hh, s5.trans g5.fh, fun a e => .inl e, g5.st⟩, ?_⟩
      rw [h5, lseM_take wh ps st hi2, List.map_append]
      rfl
  · obtain ⟨y4, rfl, gr, el⟩ := hP
    have eN : (((ps.map V.int).length : Int)).toNat = (lseM wh ps st).length := by rw [hL, lseM_len]; omega
    rw [eN, List.take_length] at el
    refine y_ret (n := 0) (m := 0) (F := upd F0 l (.lst ((lseM wh ps st).map V.int))) (same_know gr.fh el) tn0 (e_tupK (e_var rfl) upd_same) fun v F2 H2 g2 _ h => ?_
    exact q v F2 H2 ((gr.know hl fl el).trans g2) (nt_tuI h)
end
end K22
set_option Elab.async false
set_option linter.all false
set_option maxRecDepth 100000
set_option maxHeartbeats 1000000
namespace K22
open PySem PySem.Spec PyProof.Rows L2 RZ
/-! ## what is drawn: the mathematics -/
theorem getD_of_get {l : List Int} {i : Nat} (h : i < l.length) : l.getD i 0 = l[i] := by rw [List.getD_eq_getElem?_getD, List.getElem?_eq_getElem h]; rfl
def rgI (n : Int) : List Int := (List.range n.toNat).map fun (i : Nat) => (i : Int)
theorem rgI_len (n : Int) : (rgI n).length = n.toNat := by unfold rgI; rw [List.length_map, List.length_range]
theorem mem_rgI {n z : Int} (h : z ∈ rgI n) : 0 ≤ z ∧ z < n := by
  obtain ⟨i, hi, rfl⟩ := List.mem_map.mp h
  have := List.mem_range.mp hi
  omega
theorem nodup_rgI (n : Int) : (rgI n).Nodup := by
  unfold rgI
  refine List.Pairwise.map (R := fun a b : Nat => a ≠ b) _ (fun a b h e => h (Int.ofNat.inj e)) ?_
  exact List.nodup_range
theorem places_of {n : Int} {ms rs zs : List Int} (h : (ms ++ rs).Perm (rgI n)) (hz : zs.Perm ms) (hs : zs.Pairwise (· ≤ ·)) (h0 : 0 < ms.length) : IsP zs n := by
  have nd : (ms ++ rs).Nodup := h.nodup_iff.mpr (nodup_rgI n)
  have nm : ms.Nodup := (List.nodup_append.mp nd).1
  have nz : zs.Nodup := hz.nodup_iff.mpr nm
  have lt : zs.Pairwise (· < ·) := List.Pairwise.imp₂ (fun a b h1 h2 => by omega) hs nz
  have mem : ∀ z ∈ zs, 0 ≤ z ∧ z < n := fun z hz' => mem_rgI (h.mem_iff.mp (List.mem_append_left _ (hz.mem_iff.mp hz')))
  refine ⟨by rw [hz.length_eq]; exact h0, fun i j hij hj => ?_, fun i hi => ?_, fun i hi => ?_⟩
  · rw [getD_of_get hj, getD_of_get (Nat.lt_trans hij hj)]
    exact List.pairwise_iff_getElem.mp lt i j (Nat.lt_trans hij hj) hj hij
  · rw [getD_of_get hi]; exact (mem _ (List.getElem_mem hi)).1
  · rw [getD_of_get hi]; exact (mem _ (List.getElem_mem hi)).2
theorem sorted_wheel {s wd : Int} {ns zs : List Int} (hz : zs.Perm ns) (hs : zs.Pairwise (· ≤ ·)) (h0 : 0 < ns.length) (hb : ∀ z ∈ ns, s ≤ z ∧ z ≤ s + wd - 1) (hw : wd ≤ (ns.length : Int) + 1) : IsW zs := by
  have hl := hz.length_eq
  refine ⟨by omega, fun i j hij hj => ?_, ?_⟩
  · rw [getD_of_get hj, getD_of_get (Nat.lt_of_le_of_lt hij hj)]
    rcases Nat.lt_or_eq_of_le hij with q | q
    · exact List.pairwise_iff_getElem.mp hs i j (Nat.lt_of_le_of_lt hij hj) hj q
    · subst q; exact Int.le_refl _
  · have h1 : zs.length - 1 < zs.length := by omega
    have h2 : 0 < zs.length := by omega
    rw [getD_of_get h1, getD_of_get h2]
    have a := hb _ (hz.mem_iff.mp (List.getElem_mem h1))
    have b := hb _ (hz.mem_iff.mp (List.getElem_mem h2))
    omega
theorem shM_len (n m : Int) : (shM n m).length = n.toNat := by unfold shM; rw [List.length_map, List.length_range]
theorem shM_get {n m : Int} {i : Nat} (h : i < n.toNat) : (shM n m).getD i 0 = (i : Int) + m := getD_range (f := fun (k : Nat) => (k : Int) + m) h
theorem shM_wheel {n m : Int} (h : 0 < n) : IsW (shM n m) := by
  refine ⟨by rw [shM_len]; omega, fun i j hij hj => ?_, ?_⟩
  · rw [shM_len] at hj
    rw [shM_get hj, shM_get (Nat.lt_of_le_of_lt hij hj)]
    omega
  · rw [shM_len, shM_get (show n.toNat - 1 < n.toNat by omega), shM_get (show 0 < n.toNat by omega)]
    omega
/-- a shift, one more at place k -/
def buM (n m : Int) (k : Nat) : List Int := (List.range n.toNat).map fun (i : Nat) => (i : Int) + m + (if i = k then 1 else 0)
theorem buM_len (n m : Int) (k : Nat) : (buM n m k).length = n.toNat := by unfold buM; rw [List.length_map, List.length_range]
theorem buM_get {n m : Int} {k i : Nat} (h : i < n.toNat) : (buM n m k).getD i 0 = (i : Int) + m + (if i = k then 1 else 0) := getD_range (f := fun (i : Nat) => (i : Int) + m + (if i = k then 1 else 0)) h
theorem ext_getD {a b : List Int} (hl : a.length = b.length) (h : ∀ i : Nat, i < a.length → a.getD i 0 = b.getD i 0) : a = b := by
  refine List.ext_getElem hl fun i h1 h2 => ?_
  have := h i h1
  rw [getD_of_get h1, getD_of_get h2] at this
  exact this
theorem getD_set {l : List Int} {k i : Nat} {v : Int} (h : k < l.length) : (l.set k v).getD i 0 = if i = k then v else l.getD i 0 := by
  rw [List.getD_eq_getElem?_getD, List.getD_eq_getElem?_getD]
  by_cases e : i = k
  · subst e
    rw [if_pos rfl, List.getElem?_set_self h]; rfl
  · rw [if_neg e, List.getElem?_set_ne (Ne.symm e)]
theorem shM_bump {n m : Int} {k : Nat} (h : k < n.toNat) : (shM n m).set k ((shM n m).getD k 0 + 1) = buM n m k := by
  refine ext_getD (by rw [List.length_set, shM_len, buM_len]) fun i hi => ?_
  rw [List.length_set, shM_len] at hi
  rw [getD_set (by rw [shM_len]; exact h), shM_get h, buM_get hi, shM_get hi]
  by_cases e : i = k
  · subst e; rw [if_pos rfl, if_pos rfl]
  · rw [if_neg e, if_neg e]; omega
theorem buM_stays {n m : Int} {k j : Nat} (hj : j < n.toNat) : (buM n m k).set j ((buM n m k).getD j 0) = buM n m k := by
  refine ext_getD (by rw [List.length_set]) fun i hi => ?_
  rw [getD_set (by rw [buM_len]; exact hj)]
  by_cases e : i = j
  · subst e; rw [if_pos rfl]
  · rw [if_neg e]
theorem buM_rises {n m : Int} {k i : Nat} (hi : k ≤ i) (hj : i + 1 < n.toNat) : (buM n m k).getD i 0 ≤ (buM n m k).getD (i + 1) 0 := by
  rw [buM_get (Nat.lt_of_succ_lt hj), buM_get hj]
  split <;> split <;> omega
def caM (l : List Int) (n : Int) : List Int := l.map fun o => if ga l 0 + n < o then ga l 0 + n else o
theorem caM_len (l : List Int) (n : Int) : (caM l n).length = l.length := List.length_map _
theorem caM_wheel {n m : Int} {k : Nat} (h : 0 < n) : IsW (caM (buM n m k) n) := by
  have hl : (buM n m k).length = n.toNat := buM_len n m k
  have g : ∀ i : Nat, i < n.toNat → (caM (buM n m k) n).getD i 0 = if ga (buM n m k) 0 + n < (buM n m k).getD i 0 then ga (buM n m k) 0 + n else (buM n m k).getD i 0 := fun i hi => getD_map (d := 0) (by rw [hl]; exact hi)
  refine ⟨by rw [caM_len, hl]; omega, fun i j hij hj => ?_, ?_⟩
  · rw [caM_len, hl] at hj
    have hi : i < n.toNat := by omega
    rw [g j hj, g i hi, buM_get hj, buM_get hi]
    have : (i : Int) + m + (if i = k then 1 else 0) ≤ (j : Int) + m + (if j = k then 1 else 0) ∨ i = j := by
      by_cases e : i = j
      · exact .inr e
      · refine .inl ?_
        split <;> split <;> omega
    rcases this with q | q
    · split <;> split <;> omega
    · subst q; exact Int.le_refl _
  · rw [caM_len, hl]
    rw [g _ (show n.toNat - 1 < n.toNat by omega), g 0 (show 0 < n.toNat by omega)]
    have e0 : ga (buM n m k) 0 = (buM n m k).getD 0 0 := rfl
    rw [e0]
    split <;> split <;> omega
end K22
set_option Elab.async false
set_option linter.all false
set_option maxRecDepth 100000
set_option maxHeartbeats 1000000
namespace K22
open PySem PySem.Spec PyProof.Rows L2 RZ
section
variable {T : Option Addr} {F F0 F1 F2 H H0 H1 H2 : Hp} {n m l k : Nat} {K : PySem.W.Frag} {σ : L2.St}
/-! ## more of the layer: for the draws -/
theorem e_rg {ta : TE} {j : Int} (h : Rn T n m F (Is (.int j)) (ta σ)) (hj : 0 ≤ j ∧ j ≤ 1000) : Rn T n m F (LsI (rgI j)) (tLstRg (tRg1 ta) σ) := fun F1 H1 s1 s2 tn Q r =>
  h F1 H1 s1 s2 tn _ fun v F2 H2 g tn2 e => ⟨j, e, ⟨by omega, by omega, by omega, by omega, by omega⟩, fun q hq => by
    have ev : rgV 0 j = (rgI j).map V.int := by
      unfold rgV rgI
      rw [List.map_map, Int.sub_zero]
      exact List.map_congr_left fun i _ => by show V.int (0 + (i : Nat)) = V.int ((i : Nat) : Int); rw [Int.zero_add]
    rw [ev]
    exact r _ _ _ (g.trans (Gr.new g.fh hq)) (tn2.keep (Gr.new g.fh hq)) ⟨q, rfl, upd_same⟩⟩
theorem e_sortedP {ta : TE} {Z : List Int → Prop} (h : Rn T n m F (NL (PkL Z)) (ta σ)) : Rn T n m F (NL (PkL fun ms => ∃ ns, Z ns ∧ ms.Perm ns ∧ ms.Pairwise (· ≤ ·))) (tCB (rSortedI K) (tCons ta tNil) σ) :=
  Rn.post (e_sorted (Z := Z) h) fun v F1 _ ⟨p, us, e1, e2, ns, ms, e3, z, pm, pw⟩ => ⟨p, us, e1, e2, ms, e3, ns, z, pm, pw⟩
theorem Bd.le {P : V → Hp → Prop} {ts : TS} (h : Bd T n m F P σ ts) (hl : m ≤ l) : Bd T n l F P σ ts := fun F1 H1 s1 s2 tn Q r nx bk ct => h F1 H1 s1 s2 tn Q (fun v F2 H2 g t p => r v F2 H2 g (t.le hl) p) nx bk ct
/-- a new list of ints at hand, not yet known -/
theorem y_lstNew {ta : TE} {tz : TS} {D : Ends} {i : Nat} {ns : List Int} (sF : Same F H) (tn : Tn T n F H) (h : Rn T n m F (TuI ns) (ta σ))
    (k : ∀ l F1 H1, Gr T F H F1 H1 → Tn T m F1 H1 → H1 l = none → tz D (σ.set i (some (.ref l))) (upd H1 l (.lst (ns.map V.int)))) : tSeq (tAsg (tCB (rLstO K) (tCons ta tNil)) (gName i)) tz D σ H :=
  h F H (Same.refl _) sF tn _ fun v F1 H1 g t ⟨p, e, hp⟩ => ⟨p, _, by rw [e], .inr (.inl (.inl (g.fh _ _ hp))), fun l hl => k l F1 H1 g t hl⟩
end
section
variable {P : Program} {w : World} {K : PySem.W.Frag} {mg : Str → Option Value} {base : Heap} {f f1 f2 f3 f4 : Addr} {fd fd1 fd2 fd3 fd4 : FuncData}
/-! ## drawn places -/
def SpP (b : Int) : V → Hp → Prop := fun v F => ∃ ps, TuI ps v F ∧ IsP ps b ∧ (ps.length : Int) ≤ b
instance (b : Int) : Mo (SpP b) := ⟨fun _ _ _ s ⟨ps, h, h2⟩ => ⟨ps, Mo.mo _ _ _ s h, h2⟩⟩
def N1 (b : Int) : V → Hp → Prop := fun v _ => ∃ c : Int, v = .int c ∧ 1 ≤ c ∧ c ≤ b
instance (b : Int) : Mo (N1 b) := ⟨fun _ _ _ _ h => h⟩
def RLspots : List V → Hp → Addr → Nat → Nat → (V → Hp → Prop) → Prop := fun vs F t n m P => ∃ b : Int, vs = [.ref t, .int b] ∧ 0 < b ∧ b ≤ 100 ∧ n ≤ 800000 ∧ m = n + 101 ∧ P = SpP b
theorem ok_Lspots (F : Fun K "_law_spots" "_law_spots" sLspots f fd) (B : Bt mg) (cLtake : Cl P w K mg base "_law_take" 1 ["_law_tin", "_law_below_so"] (mkSpT RLtake) f1 fd1) (cLpick : Cl P w K mg base "_law_pick" 2 ["_law_tin", "_law_goods_so", "_law_count_so"] (mkSpT RLpick) f2 fd2) :
    FnOk P w K mg base CX0 3 f fd ["_law_tin", "_law_ring_so"] (mkSpT RLspots) := by
  refine F.ok scLspots (fun vs H Q E h => ?_) (fun cdv A outer s H vs Q E hr h => ?_)
  · obtain ⟨_, _, _, _, _, _, _, ⟨_, rfl, _⟩, _⟩ := h; rfl
  obtain ⟨F0, t, n, m, P0, sF, tn, ⟨b, rfl, b0, b1, hn, rfl, rfl⟩, q⟩ := h
  refine ⟨_, (pss_one (ps_ret (pe_callTy cl_tup (by rfl) B.tuple bt_tuple (pa_cons (pe_callB cr_sortedI (by rfl) B.sorted bt_sorted (pa_cons (pe_call cLpick.G (hr.mono (by omega)) (by rfl) cLpick.g cLpick.kp cLpick.b .nil pass0 (pa_cons (pv 0) (pa_cons (pe_listRg rfl (by rfl) B.list (prg_1 (by rfl) B.range (pv 1))) (pa_cons (pe_op op_add pe_int (pe_call cLtake.G (hr.mono (by omega)) (by rfl) cLtake.g cLtake.kp cLtake.b .nil pass0 (pa_cons (pv 0) (pa_cons (pv 1) pa_nil)))) pa_nil)))) pa_nil)) pa_nil)))), ?_⟩
  refine fin_tin (n := n) (m := n + 1 + 100) (b_ret (Rn.post (e_tupO (e_sortedP (Z := fun ms => 0 < ms.length ∧ ∃ rs, (ms ++ rs).Perm (rgI b)) (e_callT (m := n + 1) (a_cons (e_var rfl) (a_cons (e_rg (e_var rfl) ⟨by omega, by omega⟩) (a_cons (A := N1 b) (e_op e_c (e_callT (l := n + 1) (P := Dr b) (a_cons (e_var rfl) (a_cons (e_var rfl) a_nil)) fun vs F1 s1 a => ?_) fun x y F1 s1 e d => fun F2 H2 s2 s3 tn2 Q2 r => ?_) a_nil))) fun vs F1 s1 a => ?_))) fun v F1 s1 h => ?_)) sF tn q
  · obtain ⟨_, _, rfl, rfl, _, _, rfl, rfl, rfl⟩ := a
    exact ⟨b, rfl, b0, by omega, by omega, rfl, rfl⟩
  · cases e
    obtain ⟨d, rfl, d0, d1⟩ := d
    exact ⟨1, d, rfl, rfl, r _ F2 H2 (Gr.refl s3) tn2 ⟨1 + d, rfl, by omega, by omega⟩⟩
  · obtain ⟨_, _, rfl, rfl, _, _, rfl, ⟨g, rfl, hg⟩, _, _, rfl, ⟨c, rfl, c0, c1⟩, rfl⟩ := a
    refine ⟨g, rgI b, c, rfl, hg, by omega, by omega, by rw [rgI_len]; omega, by omega, rfl, fun v F ⟨p, us, e1, e2, ms, e3, hms, hpm⟩ => ⟨p, us, e1, e2, ms, e3, ?_, hpm⟩⟩
    rw [rgI_len] at hms
    omega
  · obtain ⟨p, us, rfl, hp, zs, rfl, ms, ⟨m0, rs, hpm⟩, pm, pw⟩ := h
    refine ⟨zs, ⟨p, rfl, hp⟩, places_of hpm pm pw m0, ?_⟩
    have l1 := hpm.length_eq
    rw [List.length_append, rgI_len] at l1
    have l2 := pm.length_eq
    omega
end
end K22
set_option Elab.async false
set_option linter.all false
set_option maxRecDepth 100000
set_option maxHeartbeats 2000000
namespace K22
open PySem PySem.Spec PyProof.Rows L2 RZ
section
variable {P : Program} {w : World} {K : PySem.W.Frag} {mg : Str → Option Value} {base : Heap} {f f1 f2 f3 f4 : Addr} {fd fd1 fd2 fd3 fd4 : FuncData}
/-! ## a drawn wheel -/
def DkP (b : Int) : V → Hp → Prop := fun v F => ∃ ns, TuI ns v F ∧ IsW ns ∧ (ns.length : Int) = b
instance (b : Int) : Mo (DkP b) := ⟨fun _ _ _ s ⟨ps, h, h2⟩ => ⟨ps, Mo.mo _ _ _ s h, h2⟩⟩
def RLdisk : List V → Hp → Addr → Nat → Nat → (V → Hp → Prop) → Prop := fun vs F t n m P => ∃ b : Int, vs = [.ref t, .int b] ∧ 0 < b ∧ b ≤ 100 ∧ n ≤ 800000 ∧ m = n + 200 ∧ P = DkP b
theorem ok_Ldisk (F : Fun K "_law_disk" "_law_disk" sLdisk f fd) (B : Bt mg) (cLtake : Cl P w K mg base "_law_take" 1 ["_law_tin", "_law_below_so"] (mkSpT RLtake) f1 fd1) (cLshift : Cl P w K mg base "_law_shift" 1 ["_law_ring_so", "_law_m"] (mkSp RLshift) f2 fd2) :
    FnOk P w K mg base CX0 2 f fd ["_law_tin", "_law_ring_so"] (mkSpT RLdisk) := by
  refine F.ok scLdisk (fun vs H Q E h => ?_) (fun cdv A outer s H vs Q E hr h => ?_)
  · obtain ⟨_, _, _, _, _, _, _, ⟨_, rfl, _⟩, _⟩ := h; rfl
  obtain ⟨F0, t, n, m, P0, sF, tn, ⟨b, rfl, b0, b1, hn, rfl, rfl⟩, q⟩ := h
  refine ⟨_, (pss_cons (ps_asg (pe_tup (pa_cons (pe_op op_sub (pe_call cLtake.G (hr.mono (by omega)) (by rfl) cLtake.g cLtake.kp cLtake.b .nil pass0 (pa_cons (pv 0) (pa_cons (pe_op op_mul pe_int (pv 1)) pa_nil))) (pv 1)) (pa_cons (pe_call cLtake.G (hr.mono (by omega)) (by rfl) cLtake.g cLtake.kp cLtake.b .nil pass0 (pa_cons (pv 0) (pa_cons pe_int pa_nil))) pa_nil))) (pg_tupK (K := K) (n := 2) rfl rfl (pgs_cons (pg_name (i := 2) scLdisk.nd rfl (Or.inr rfl)) (pgs_cons (pg_name (i := 3) scLdisk.nd rfl (Or.inl rfl)) pgs_nil))))
      (pss_cons (ps_if (pt_cmpR op_eq (pv 3) pe_int (nomark _)) (pss_one (ps_ret (pe_call cLshift.G (hr.mono (by omega)) (by rfl) cLshift.g cLshift.kp cLshift.b .nil pass0 (pa_cons (pv 1) (pa_cons (pv 2) pa_nil))))) pss_nil)
      (pss_cons (ps_if (pt_cmpR op_eq (pv 3) pe_int (nomark _)) (pss_cons (ps_set (i := 4) scLdisk.nd rfl (Or.inr rfl) (pe_callTy cl_lst (by rfl) B.list bt_list (pa_cons (pe_call cLshift.G (hr.mono (by omega)) (by rfl) cLshift.g cLshift.kp cLshift.b .nil pass0 (pa_cons (pv 1) (pa_cons (pv 2) pa_nil))) pa_nil)))
      (pss_cons (ps_set (i := 5) scLdisk.nd rfl (Or.inl rfl) (pe_call cLtake.G (hr.mono (by omega)) (by rfl) cLtake.g cLtake.kp cLtake.b .nil pass0 (pa_cons (pv 0) (pa_cons (pv 1) pa_nil))))
      (pss_cons (ps_asg (pe_op op_add (pe_ix (ixL_K (K := K) rfl) (pv 4) (pv 5) (fun _ _ => rfl)) pe_int) (pg_sub (pv 4) (pv 5) set_list))
      (pss_cons (ps_for PassesOwn.never rfl (pi_range2 (by rfl) B.range (pa_cons (pe_op op_add (pv 5) pe_int) (pa_cons (pv 1) pa_nil))) (pg_name (i := 6) scLdisk.nd rfl (Or.inl rfl)) (pss_one (ps_asg (pe_callB (cl_max rfl) (by rfl) B.max bt_max (pa_cons (pe_ix (ixL_K (K := K) rfl) (pv 4) (pv 6) (fun _ _ => rfl)) (pa_cons (pe_ix (ixL_K (K := K) rfl) (pv 4) (pe_op op_sub (pv 6) pe_int) (fun _ _ => rfl)) pa_nil))) (pg_sub (pv 4) (pv 6) set_list))))
      (pss_one (ps_ret (pe_callTy cl_tup (by rfl) B.tuple bt_tuple (pa_cons (pe_lc (own := [("_law_own", 7)]) rfl scLdisk.nd (pi_list (pv 4)) (blkOk_by (own := [("_law_own", 7)]) (N := NLdisk) (sc := defScope sLdisk) (by decide +kernel)) (fun _ _ _ _ _ => (pg_name (i := 7) scLdisk.nd rfl (Or.inl rfl))) (fun _ _ _ _ _ => pts_nil) (fun _ _ _ _ _ => (pe_callB (cl_min rfl) (by rfl) B.min bt_min (pa_cons (pv 7) (pa_cons (pe_op op_add (pe_ix (ixL_K (K := K) rfl) (pv 4) pe_int (fun _ _ => rfl)) (pv 1)) pa_nil))))) pa_nil)))))))) pss_nil)
      (pss_cons (ps_set (i := 8) scLdisk.nd rfl (Or.inr rfl) (pe_ifExp (pt_cmpR op_gt (pv 3) pe_int (nomark _)) (pe_op op_add (pv 1) pe_int) (pe_op op_add pe_int (pe_call cLtake.G (hr.mono (by omega)) (by rfl) cLtake.g cLtake.kp cLtake.b .nil pass0 (pa_cons (pv 0) (pa_cons (pv 1) pa_nil))))))
      (pss_one (ps_ret (pe_callTy cl_tup (by rfl) B.tuple bt_tuple (pa_cons (pe_callB cr_sortedI (by rfl) B.sorted bt_sorted (pa_cons (pe_lc (own := [("_law_lap", 9)]) rfl scLdisk.nd (pi_range1 (by rfl) B.range (pa_cons (pv 1) pa_nil)) (blkOk_by (own := [("_law_lap", 9)]) (N := NLdisk) (sc := defScope sLdisk) (by decide +kernel)) (fun _ _ _ _ _ => (pg_name (i := 9) scLdisk.nd rfl (Or.inl rfl))) (fun _ _ _ _ _ => pts_nil) (fun _ _ _ _ _ => (pe_op op_add (pv 2) (pe_call cLtake.G (hr.mono (by omega)) (by rfl) cLtake.g cLtake.kp cLtake.b .nil pass0 (pa_cons (pv 0) (pa_cons (pv 8) pa_nil)))))) pa_nil)) pa_nil)))))))), ?_⟩
  refine fin_tin (n := n) (m := n + 200) (b_two (m := n + 2) (B := fun a k F => ∃ s kk : Int, a = .int s ∧ k = .int kk) (Rn.post (e_tup (B := Cn NI (Cn NI (Is []))) (a_cons (A := NI) (n_op0 (l := n + 1) (m := n + 1) (Rn.post (e_callT (m := n) (l := n + 1) (P := Dr (3 * b)) (a_cons (e_var rfl) (a_cons (e_int e_c (e_var rfl) (.inl ⟨by decide, by decide⟩)) a_nil)) fun vs F1 s1 a => ?_) fun v F1 s1 ⟨r, e, _⟩ => ⟨r, e⟩) (n_is (e_var rfl))) (a_cons (A := NI) (Rn.post (e_callT (m := n + 1) (l := n + 2) (P := Dr 5) (a_cons (e_var rfl) (a_cons e_c a_nil)) fun vs F1 s1 a => ?_) fun v F1 s1 ⟨r, e, _⟩ => ⟨r, e⟩) a_nil)) fun vs F1 a => ?_) fun v F1 s1 h => ?_) fun a k F1 s1 h => ?_) sF tn q
  · obtain ⟨_, _, rfl, rfl, _, _, rfl, rfl, rfl⟩ := a
    exact ⟨3 * b, rfl, by omega, by omega, by omega, rfl, rfl⟩
  · obtain ⟨_, _, rfl, rfl, _, _, rfl, rfl, rfl⟩ := a
    exact ⟨5, rfl, by omega, by omega, by omega, rfl, rfl⟩
  · obtain ⟨_, _, rfl, _, _, _, rfl, _, rfl⟩ := a
    show 2 ≤ 1000; decide
  · obtain ⟨p, us, rfl, hp, _, _, rfl, ⟨i, rfl⟩, _, _, rfl, ⟨j, rfl⟩, rfl⟩ := h
    exact ⟨p, _, _, rfl, hp, i, j, rfl, rfl⟩
  obtain ⟨s0, kk, rfl, rfl⟩ := h
  have hbN : ((b.toNat : Nat) : Int) = b := by omega
  refine b_ifR (m := n + 2) (b := decide (V.int kk = V.int 0)) (t_test (e_eq (e_var rfl) e_c rfl)) (fun _ => Bd.le (b_ret (Rn.post (P := TuI (shM b s0)) (e_call (a_cons (e_var rfl) (a_cons (e_var rfl) a_nil)) fun vs F2 s2 a => ?_) fun v F2 s2 h => ?_)) (by omega)) fun _ => b_ifR (m := n + 2) (b := decide (V.int kk = V.int 1)) (t_test (e_eq (e_var rfl) e_c rfl)) (fun _ => ?_) fun _ => b_asg (m := n + 3) (A := N1 (b + 1)) (e_if (m := n + 2) (b := decide (2 < kk)) (t_test (e_int0 (e_var rfl) e_c)) (fun _ => Rn.le (Rn.post (e_int0 (e_var rfl) e_c) fun v F2 s2 e => ?_) (Nat.le_succ _)) fun _ => e_op (l := n + 3) e_c (e_callT (l := n + 3) (P := Dr b) (a_cons (e_var rfl) (a_cons (e_var rfl) a_nil)) fun vs F2 s2 a => ?_) fun x y F2 s2 e d => fun F3 H3 s3 s4 tn3 Q2 r => ?_) fun v F2 s2 h => ?_
  · obtain ⟨_, _, rfl, rfl, _, _, rfl, rfl, rfl⟩ := a
    exact ⟨b, s0, rfl, by omega, by omega, rfl⟩
  · exact ⟨shM b s0, h, shM_wheel b0, by rw [shM_len]; exact hbN⟩
  · -- one that slips little
    intro F2 H2 s2 s3 tn2 Q2 r nx bk ct
    refine y_lstNew (n := n + 2) (m := n + 2) (ns := shM b s0) s3 tn2 (e_call (a_cons (e_var rfl) (a_cons (e_var rfl) a_nil)) fun vs F3 s4 a => ?_) fun l F3 H3 g3 tn3 hl => ?_
    · obtain ⟨_, _, rfl, rfl, _, _, rfl, rfl, rfl⟩ := a
      exact ⟨b, s0, rfl, by omega, by omega, rfl⟩
    have hl2 : H2 l = none := g3.free hl
    have fl3 : F3 l = none := g3.fh.free hl
    have tl : (some t : Option Addr) ≠ some l := Tn.ne (t := tn3) hl
    have gA : Gr (some t) F2 H2 F3 (upd H3 l (.lst ((shM b s0).map V.int))) := g3.mut hl2 fl3
    have tnA : Tn (some t) (n + 2) F3 (upd H3 l (.lst ((shM b s0).map V.int))) := tn3.write tl
    have eA : (upd H3 l (.lst ((shM b s0).map V.int))) l = some (.lst ((shM b s0).map V.int)) := upd_same
    generalize upd H3 l (.lst ((shM b s0).map V.int)) = H4 at gA tnA eA ⊢
    refine y_asg (n := n + 2) (m := n + 3) (P := Dr b) gA.fh tnA (e_callT (m := n + 2) (a_cons (e_var rfl) (a_cons (e_var rfl) a_nil)) fun vs F4 s4 a => ?_) fun v F4 H5 g5 tn5 hd => ?_
    · obtain ⟨_, _, rfl, rfl, _, _, rfl, rfl, rfl⟩ := a
      exact ⟨b, rfl, b0, by omega, by omega, rfl, rfl⟩
    obtain ⟨k, rfl, k0, k1⟩ := hd
    have e5 : H5 l = some (.lst ((shM b s0).map V.int)) := g5.at tl eA
    have f5 : F4 l = none := g5.hid fl3 (by rw [eA]; intro z; cases z)
    have lenS : (shM b s0).length = b.toNat := shM_len b s0
    refine x_sub (j := k) (m := k.toNat) g5.fh e5 (e_int0 (e_ixL (e_var rfl) upd_same (e_var rfl) (atI_ga k0 (by omega))) e_c) (e_var rfl) (e_var rfl) (ixN_in k0 (by rw [List.length_map]; omega)) fun H6 g6 t6 => ?_
    have eb : ((shM b s0).map V.int).set k.toNat (V.int (ga (shM b s0) k + 1)) = (buM b s0 k.toNat).map V.int := by
      rw [← List.map_set]
      exact congrArg _ (shM_bump (by omega))
    rw [eb]
    have gB : Gr (some t) F2 H2 F4 (upd H6 l (.lst ((buM b s0 k.toNat).map V.int))) := ((gA.trans g5).trans g6.lift).mut hl2 f5
    have tnB : Tn (some t) (n + 3) F4 (upd H6 l (.lst ((buM b s0 k.toNat).map V.int))) := (tn5.keep g6).write tl
    have eB : (upd H6 l (.lst ((buM b s0 k.toNat).map V.int))) l = some (.lst ((buM b s0 k.toNat).map V.int)) := upd_same
    have lenB : (buM b s0 k.toNat).length = b.toNat := buM_len b s0 k.toNat
    have stays : ∀ j : Nat, j < b.toNat → (buM b s0 k.toNat).set j ((buM b s0 k.toNat).getD j 0) = buM b s0 k.toNat := fun j hj => buM_stays hj
    have rises : ∀ i : Nat, k.toNat ≤ i → i + 1 < b.toNat → (buM b s0 k.toNat).getD i 0 ≤ (buM b s0 k.toNat).getD (i + 1) 0 := fun i h1 h2 => buM_rises h1 h2
    have hcw : IsW (caM (buM b s0 k.toNat) b) := caM_wheel b0
    generalize upd H6 l (.lst ((buM b s0 k.toNat).map V.int)) = H7 at gB tnB eB ⊢
    generalize buM b s0 k.toNat = bu at gB tnB eB lenB stays rises hcw ⊢
    refine q_forR2 (F := upd F4 l (.lst (bu.map V.int))) (same_know gB.fh eB) (e_int0 (e_var rfl) e_c) (e_var rfl) ⟨by omega, by omega, by omega, by omega⟩ (fun i σ' H' => ∃ y6, σ' = [some (.ref t), some (.int b), some (.int s0), some (.int kk), some (.ref l), some (.int k), y6, none, none, none] ∧ Gr (some t) F2 H2 F4 H' ∧ Tn (some t) (n + 3) F4 H' ∧ H' l = some (.lst (bu.map V.int))) (fun H8 g8 => ?_) (fun i σ' H' hi hP => ?_) fun σ' H' hP => ?_
    · have g8' := Gr.drop (T := none) gB.fh g8
      exact ⟨none, rfl, gB.trans g8'.lift, tnB.keep g8', g8.at (by simp) eB⟩
    · obtain ⟨y6, rfl, gr, tni, el⟩ := hP
      have hJ : (k + 1 + (i : Int)).toNat < b.toNat := by omega
      have eJ : k + 1 + (i : Int) - 1 = k + (i : Int) := by omega
      have r1 := rises (k + (i : Int)).toNat (by omega) (by omega)
      have eJ2 : (k + (i : Int)).toNat + 1 = (k + 1 + (i : Int)).toNat := by omega
      rw [eJ2] at r1
      refine x_sub1 (j := k + 1 + (i : Int)) (m := (k + 1 + (i : Int)).toNat) (v := .int (bu.getD (k + 1 + (i : Int)).toNat 0)) gr.fh el (e_to (e_max (i := bu.getD (k + 1 + (i : Int)).toNat 0) (j := bu.getD (k + (i : Int)).toNat 0) (e_ixL (e_var rfl) upd_same (e_var rfl) (atI_ga (by omega) (by omega))) (e_ixL (e_var rfl) upd_same (e_int0 (e_var rfl) e_c) (by rw [eJ]; exact atI_ga (by omega) (by omega)))) ?_) (e_var rfl) (e_var rfl) (ixN_in (by omega) (by rw [List.length_map]; omega)) fun H9 g9 t9 => ?_
      · rw [if_neg (by omega)]
      · rw [← List.map_set, stays _ hJ]
        exact ⟨_, rfl, (gr.trans g9.lift).mut hl2 f5, (tni.keep g9).write tl, upd_same⟩
    · obtain ⟨y6, rfl, gr, tni, el⟩ := hP
      refine y_ret (T := some t) (n := n + 3) (m := n + 3) (F := upd F4 l (.lst (bu.map V.int))) (same_know gr.fh el) (tni.know tl) (e_tupO (e_lcI (f := fun o => if ga bu 0 + b < o then ga bu 0 + b else o) (i_lst (e_var rfl) upd_same) (by omega) (fun _ => rfl) fun o F8 ho s8 => e_min (e_var rfl) (e_int0 (i := ga bu 0) (j := b) (e_ixL (e_var rfl) (s8 _ _ upd_same) e_c (atI_ga (by omega) (by omega))) (e_var rfl)))) fun v F8 H8 g8 tn8 h => ?_
      exact r v F8 H8 ((gr.know hl2 f5 el).trans g8) (tn8.le (by omega)) ⟨caM bu b, nt_tuI h, hcw, by rw [caM_len, lenB]; exact hbN⟩
  · cases e
    exact ⟨b + 1, rfl, by omega, by omega⟩
  · obtain ⟨_, _, rfl, rfl, _, _, rfl, rfl, rfl⟩ := a
    exact ⟨b, rfl, b0, by omega, by omega, rfl, rfl⟩
  · cases e
    obtain ⟨d, rfl, d0, d1⟩ := d
    exact ⟨1, d, rfl, rfl, r _ F3 H3 (Gr.refl s4) tn3 ⟨1 + d, rfl, by omega, by omega⟩⟩
  · obtain ⟨wd, rfl, w1, w2⟩ := h
    refine Bd.le (m := n + 3 + b.toNat) (b_ret (Rn.post (e_tupO (e_sortedP (Z := fun ns => ns.length = b.toNat ∧ ∀ z ∈ ns, s0 ≤ z ∧ z ≤ s0 + wd - 1) (Rn.post (e_lcR (c := fun i => n + 3 + i) (len := b.toNat) (val := fun i => (i : Int)) (Inv := fun i acc _ => ∃ ns : List Int, acc = ns.map V.int ∧ ns.length = i ∧ ∀ z ∈ ns, s0 ≤ z ∧ z ≤ s0 + wd - 1) (Pe := fun _ v _ => ∃ z : Int, v = .int z ∧ s0 ≤ z ∧ z ≤ s0 + wd - 1) (i_rng (e_var rfl) ⟨by omega, by omega⟩) rfl (by omega) (fun _ _ _ _ _ h => h) (fun _ _ => ⟨[], rfl, rfl, fun z hz => by cases hz⟩) (fun _ => rfl) (fun i F3 hi s3 => e_op (l := n + 3 + (i + 1)) (e_var rfl) (e_callT (m := n + 3 + i) (l := n + 3 + i + 1) (P := Dr wd) (a_cons (e_var rfl) (a_cons (e_var rfl) a_nil)) fun vs F4 s4 a => ?_) fun x y F4 s4 e d => fun F5 H5 s5 s6 tn5 Q2 r => ?_) fun i acc y F3 hi hac h p => ?_) fun v F3 s3 h => ?_))) fun v F3 s3 h => ?_)) (by omega)
    · obtain ⟨_, _, rfl, rfl, _, _, rfl, rfl, rfl⟩ := a
      exact ⟨wd, rfl, by omega, by omega, by omega, rfl, rfl⟩
    · cases e
      obtain ⟨d, rfl, d0, d1⟩ := d
      exact ⟨s0, d, rfl, rfl, r _ F5 H5 (Gr.refl s6) tn5 ⟨s0 + d, rfl, by omega, by omega⟩⟩
    · obtain ⟨ns, rfl, hl, hb⟩ := h
      obtain ⟨z, rfl, z0, z1⟩ := p
      refine ⟨ns ++ [z], by rw [List.map_append]; rfl, by rw [List.length_append, hl]; rfl, fun u hu => ?_⟩
      rcases List.mem_append.mp hu with q1 | q1
      · exact hb u q1
      · rw [List.mem_singleton.mp q1]; exact ⟨z0, z1⟩
    · obtain ⟨p, us, e1, e2, _, ns, e3, hl, hb⟩ := h
      exact ⟨p, us, e1, e2, ns, e3, hl, hb⟩
    · obtain ⟨p, us, rfl, hp, zs, rfl, ns, ⟨hl, hb⟩, pm, pw⟩ := h
      refine ⟨zs, ⟨p, rfl, hp⟩, sorted_wheel pm pw (by omega) hb (by omega), ?_⟩
      have := pm.length_eq
      omega
end
end K22
set_option Elab.async false
set_option linter.all false
set_option maxRecDepth 100000
set_option maxHeartbeats 2000000
namespace K22
open PySem PySem.Spec PyProof.Rows L2 RZ
section
variable {T : Option Addr} {F F0 F1 F2 H H0 H1 H2 : Hp} {n m l k : Nat} {K : PySem.W.Frag} {σ : L2.St} {ta tb tc te : TE} {t tr : TA} {E : XK}
/-! ## data told by runs -/
theorem e_varT {i : Nat} {v : V} {ns : List Int} (h : σ[i]? = some (some v)) (hv : TuI ns v F) : Rn T n n F (TuI ns) (tVar i σ) := Rn.post (e_var h) fun u F1 s e => by
  cases e
  exact Mo.mo _ _ _ s hv
theorem e_varD {i : Nat} {v : V} {d : Da} (h : σ[i]? = some (some v)) (hv : At d v F) : Rn T n n F (At d) (tVar i σ) := Rn.post (e_var h) fun u F1 s e => by
  cases e
  exact Mo.mo _ _ _ s hv
theorem a_consI {x : V} {xs : List V} (h : Rn T n m F (Is x) (ta σ)) (hr : Rn T m l F (Is xs) (tr σ)) : Rn T n l F (Is (x :: xs)) (tCons ta tr σ) := Rn.post (a_cons h hr) fun v F1 _ ⟨a, b, e, e1, e2⟩ => by
  cases e1; cases e2
  exact e
theorem e_tI {ns : List Int} (h : Rn T n m F (Is (ns.map V.int)) (t σ)) (hl : ns.length ≤ 1000) : Rn T n m F (TuI ns) (tTup t σ) := Rn.post (e_tup h fun vs F1 e => by cases e; rw [List.length_map]; exact hl) fun v F1 _ h => nt_tuI h
theorem e_dT {ns : List Int} (h : Rn T n m F (TuI ns) (ta σ)) : Rn T n m F (At (dT ns)) (ta σ) := Rn.post h fun v F1 _ h => tuI_at h
theorem aD_nil : Rn T n n F (AtL []) (tNil σ) := by rw [atL_nil]; exact a_nil
theorem aD_cons {d : Da} {ds : List Da} (h : Rn T n m F (At d) (ta σ)) (hr : Rn T m l F (AtL ds) (tr σ)) : Rn T n l F (AtL (d :: ds)) (tCons ta tr σ) := by rw [atL_cons]; exact a_cons h hr
theorem e_lD {ds : List Da} (h : Rn T n m F (AtL ds) (t σ)) (hl : ds.length ≤ 1000) : Rn T n m F (At (.l ds)) (tLst t σ) := by
  rw [at_l]
  exact e_lst h fun vs F1 a => by rw [a.len]; exact hl
theorem e_tD {ds : List Da} (h : Rn T n m F (AtL ds) (t σ)) (hl : ds.length ≤ 1000) : Rn T n m F (At (.t ds)) (tTup t σ) := by
  rw [at_t]
  exact e_tup h fun vs F1 a => by rw [a.len]; exact hl
theorem e_catD {ds es : List Da} (ha : Rn T n m F (At (.l ds)) (ta σ)) (hb : Rn T m l F (At (.l es)) (tb σ)) (hl : ds.length + es.length ≤ 1000) : Rn T n l F (At (.l (ds ++ es))) (tOp rCat ta tb σ) := by
  rw [at_l] at ha hb ⊢
  exact Rn.post (e_cat ha hb fun xs ys F1 a b => by rw [a.len, b.len]; exact hl) fun v F1 _ ⟨p, us, e1, e2, xs, ys, e3, a, b⟩ => ⟨p, us, e1, e2, by rw [e3]; exact AtL.append a b⟩
theorem e_rep2D {d : Da} (ha : Rn T n m F (At (.l [d])) (ta σ)) (hb : Rn T m l F (Is (.int 2)) (tb σ)) : Rn T n l F (At (.l [d, d])) (tOp rRep ta tb σ) := by
  rw [at_l, atL_cons, atL_nil] at ha
  rw [at_l, atL_cons, atL_cons, atL_nil]
  exact e_rep2 ha hb
/-! ## calls told by runs -/
theorem c_see {M : List Int → List Int → List Int} {w p r : List Int} (ha : Rn T n m F (TuI w) (ta σ)) (hb : Rn T m l F (TuI p) (tb σ)) (hl : w.length ≤ 999) (hl2 : p.length ≤ 999) (hw : IsW w) (hp : IsP p (w.length : Int)) (hr : M w p = r) :
    Rn T n l F (At (dT r)) (tCall (mkSp (RseeS M)) [] E (tCons ta (tCons tb tNil)) σ) := e_dT (e_call (a_cons ha (a_cons hb a_nil)) fun vs F1 s1 a => by
  obtain ⟨_, _, rfl, h1, _, _, rfl, h2, rfl⟩ := a
  exact ⟨_, _, w, p, rfl, h1, h2, hl, hl2, hw, hp, by rw [hr]⟩)
theorem c_lsee {w p : List Int} {s : Bool} {r : List Int} (ha : Rn T n m F (TuI w) (ta σ)) (hb : Rn T m l F (TuI p) (tb σ)) (hc : Rn T l k F (Is (.bl s)) (tc σ)) (h0 : 0 < w.length) (hl : w.length ≤ 999) (hl2 : p.length ≤ 999) (hr : lseM w p s = r) :
    Rn T n k F (At (dT r)) (tCall (mkSp RLseen) [] E (tCons ta (tCons tb (tCons tc tNil))) σ) := e_dT (e_call (a_cons ha (a_cons hb (a_cons hc a_nil))) fun vs F1 s1 a => by
  obtain ⟨_, _, rfl, h1, _, _, rfl, h2, _, _, rfl, rfl, rfl⟩ := a
  exact ⟨_, _, w, p, s, rfl, h1, h2, h0, hl, hl2, by rw [hr]⟩)
theorem c_within {p f r : List Int} {i : Int} (ha : Rn T n m F (TuI p) (ta σ)) (hi : Rn T m l F (Is (.int i)) (tb σ)) (hc : Rn T l k F (TuI f) (tc σ)) (hl : p.length ≤ 999) (hl2 : f.length ≤ 999) (hp : IsP p i) (hf : IsP f (p.length : Int)) (hr : pick p f = r) :
    Rn T n k F (At (dT r)) (tCall (mkSp RplacesWithin) [] E (tCons ta (tCons tb (tCons tc tNil))) σ) := e_dT (e_call (a_cons ha (a_cons hi (a_cons hc a_nil))) fun vs F1 s1 a => by
  obtain ⟨_, _, rfl, h1, _, _, rfl, rfl, _, _, rfl, h2, rfl⟩ := a
  exact ⟨_, _, i, dT p, dT f, p, f, rfl, tuI_at h1, .inl rfl, tuI_at h2, .inl rfl, hl, hl2, hp, hf, by rw [hr]⟩)
theorem c_same {d : Da} {j : Nat} (ha : Rn T n m F (At d) (ta σ)) (hb : Rn T m l F (At d) (tb σ)) (hf : fit j d) : Rn T n l F (Is (.bl true)) (tCall (mkSp (RLsame j)) [] E (tCons ta (tCons tb tNil)) σ) := e_call (a_cons ha (a_cons hb a_nil)) fun vs F1 s1 a => by
  obtain ⟨_, _, rfl, h1, _, _, rfl, h2, rfl⟩ := a
  exact ⟨_, _, d, rfl, h1, h2, hf, rfl⟩
theorem e_callK0 {B : List V → Hp → Prop} [mb : Mo B] {S : List V → Hp → (V → Hp → Prop) → Prop} {P : V → Hp → Prop} {ks : List Str} {gV : List V → List V} (h : Rn T n m F B (t σ)) (hl : ∀ vs F1, B vs F1 → vs.length = ks.length) (hR : ∀ vs F1, Same F F1 → B vs F1 → S (gV vs) F1 P) :
    Rn T n m F P (tCallK0 (mkSp S) ks gV E t σ) :=
  Rn.bind (q1 := t σ) (q2 := fun vs H Q => vs.length = ks.length ∧ mkSp S (gV vs) H Q E) h fun vs F1 s1 b => Rn.lift fun F2 H2 s2 s3 _ Q r =>
    ⟨hl vs F1 b, F2, P, s3, hR vs F2 (s1.trans s2) (mb.mo _ _ _ s2 b), fun v F3 H3 g p => r v F3 H3 g tn0 p⟩
/-! ## written wheels and places -/
theorem W_of {w : List Int} (h0 : 0 < w.length) (hs : w.Pairwise (· ≤ ·)) (ht : w.getD (w.length - 1) 0 ≤ w.getD 0 0 + (w.length : Int)) : IsW w := by
  refine ⟨h0, fun i j hij hj => ?_, ht⟩
  rw [getD_of_get hj, getD_of_get (Nat.lt_of_le_of_lt hij hj)]
  rcases Nat.lt_or_eq_of_le hij with q | q
  · exact List.pairwise_iff_getElem.mp hs i j (Nat.lt_of_le_of_lt hij hj) hj q
  · subst q; exact Int.le_refl _
theorem P_of {p : List Int} {n : Int} (h0 : 0 < p.length) (hs : p.Pairwise (· < ·)) (hb : ∀ z ∈ p, 0 ≤ z ∧ z < n) : IsP p n := by
  refine ⟨h0, fun i j hij hj => ?_, fun i hi => ?_, fun i hi => ?_⟩
  · rw [getD_of_get hj, getD_of_get (Nat.lt_trans hij hj)]
    exact List.pairwise_iff_getElem.mp hs i j (Nat.lt_trans hij hj) hj hij
  · rw [getD_of_get hi]; exact (hb _ (List.getElem_mem hi)).1
  · rw [getD_of_get hi]; exact (hb _ (List.getElem_mem hi)).2
theorem fit_l {j : Nat} {ds : List Da} (h : ds.length ≤ 999) (hf : ∀ d ∈ ds, fit j d) : fit (j + 1) (.l ds) := ⟨h, hf⟩
end
section
variable {P : Program} {w : World} {K : PySem.W.Frag} {mg : Str → Option Value} {base : Heap} {f f1 f2 f3 f4 : Addr} {fd fd1 fd2 fd3 fd4 : FuncData}
def RLbyhand : List V → Hp → (V → Hp → Prop) → Prop := fun vs F P => vs = [] ∧ P = Is (.bl true)
theorem ok_Lbyhand (F : Fun K "_law_by_hand_right" "_law_by_hand_right" sLbyhandright f fd) (B : Bt mg) (cplaceswithin : Cl P w K mg base "places_within" 5 ["places", "ring", "numbers"] (mkSp RplacesWithin) f1 fd1) (cseen : Cl P w K mg base "seen" 6 ["wheel", "places"] (mkSp (RseeS seeM)) f2 fd2)
    (cstrictlyseen : Cl P w K mg base "strictly_seen" 6 ["wheel", "places"] (mkSp (RseeS strM)) f3 fd3) (cLsame : Cl P w K mg base "_law_same" 4 ["_law_got", "_law_due"] (mkSp (RLsame 3)) f4 fd4) : FnOk P w K mg base CX0 7 f fd [] (mkSp RLbyhand) := by
  refine F.ok scLbyhandright (fun vs H Q E h => ?_) (fun cdv A outer s H vs Q E hr h => ?_)
  · obtain ⟨_, _, _, ⟨rfl, _⟩, _⟩ := h; rfl
  obtain ⟨F0, P0, sF, ⟨rfl, rfl⟩, q⟩ := h
  refine ⟨_, (pss_cons (ps_asg (pe_tup (pa_cons (pe_tup (pa_cons pe_int (pa_cons pe_int (pa_cons pe_int (pa_cons pe_int (pa_cons pe_int pa_nil)))))) (pa_cons (pe_tup (pa_cons pe_int (pa_cons pe_int (pa_cons pe_int pa_nil)))) pa_nil))) (pg_tupK (K := K) (n := 2) rfl rfl (pgs_cons (pg_name (i := 0) scLbyhandright.nd rfl (Or.inl rfl)) (pgs_cons (pg_name (i := 1) scLbyhandright.nd rfl (Or.inl rfl)) pgs_nil))))
      (pss_cons (ps_set (i := 2) scLbyhandright.nd rfl (Or.inl rfl) (pe_lst (pa_cons (pe_call cplaceswithin.G (hr.mono (by omega)) (by rfl) cplaceswithin.g cplaceswithin.kp cplaceswithin.b .nil pass0 (pa_cons (pv 1) (pa_cons pe_int (pa_cons (pe_tup (pa_cons pe_int (pa_cons pe_int pa_nil))) pa_nil)))) (pa_cons (pe_call cplaceswithin.G (hr.mono (by omega)) (by rfl) cplaceswithin.g cplaceswithin.kp cplaceswithin.b .nil pass0 (pa_cons (pe_tup (pa_cons pe_int pa_nil)) (pa_cons pe_int (pa_cons (pe_tup (pa_cons pe_int pa_nil)) pa_nil)))) (pa_cons (pe_call cplaceswithin.G (hr.mono (by omega)) (by rfl) cplaceswithin.g cplaceswithin.kp cplaceswithin.b .nil pass0 (pa_cons (pe_tup (pa_cons pe_int (pa_cons pe_int (pa_cons pe_int pa_nil)))) (pa_cons pe_int (pa_cons (pe_tup (pa_cons pe_int pa_nil)) pa_nil)))) pa_nil)))))
      (pss_cons (ps_set (i := 3) scLbyhandright.nd rfl (Or.inl rfl) (pe_lst (pa_cons (pe_tup (pa_cons pe_int (pa_cons pe_int pa_nil))) (pa_cons (pe_tup (pa_cons pe_int pa_nil)) (pa_cons (pe_tup (pa_cons pe_int pa_nil)) pa_nil)))))
      (pss_cons (ps_set (i := 2) scLbyhandright.nd rfl (Or.inl rfl) (pe_op op_cat (pv 2) (pe_lst (pa_cons (pe_call cseen.G (hr.mono (by omega)) (by rfl) cseen.g cseen.kp cseen.b .nil pass0 (pa_cons (pv 0) (pa_cons (pe_tup (pa_cons pe_int (pa_cons pe_int pa_nil))) pa_nil))) (pa_cons (pe_call cseen.G (hr.mono (by omega)) (by rfl) cseen.g cseen.kp cseen.b .nil pass0 (pa_cons (pe_tup (pa_cons pe_int (pa_cons pe_int (pa_cons pe_int pa_nil)))) (pa_cons (pe_tup (pa_cons pe_int (pa_cons pe_int pa_nil))) pa_nil))) (pa_cons (pe_call cstrictlyseen.G (hr.mono (by omega)) (by rfl) cstrictlyseen.g cstrictlyseen.kp cstrictlyseen.b .nil pass0 (pa_cons (pv 0) (pa_cons (pe_tup (pa_cons pe_int (pa_cons pe_int pa_nil))) pa_nil))) (pa_cons (pe_call cstrictlyseen.G (hr.mono (by omega)) (by rfl) cstrictlyseen.g cstrictlyseen.kp cstrictlyseen.b .nil pass0 (pa_cons (pv 0) (pa_cons (pe_tup (pa_cons pe_int (pa_cons pe_int (pa_cons pe_int pa_nil)))) pa_nil))) pa_nil)))))))
      (pss_cons (ps_set (i := 3) scLbyhandright.nd rfl (Or.inl rfl) (pe_op op_cat (pv 3) (pe_lst (pa_cons (pe_tup (pa_cons pe_int (pa_cons pe_int pa_nil))) (pa_cons (pe_tup (pa_cons pe_int (pa_cons pe_int pa_nil))) (pa_cons (pe_tup (pa_cons (pe_un un_neg pe_int) (pa_cons pe_int pa_nil))) (pa_cons (pe_tup (pa_cons pe_int (pa_cons pe_int (pa_cons pe_int pa_nil)))) pa_nil)))))))
      (pss_cons (ps_set (i := 2) scLbyhandright.nd rfl (Or.inl rfl) (pe_op op_cat (pv 2) (pe_lst (pa_cons (pe_call cstrictlyseen.G (hr.mono (by omega)) (by rfl) cstrictlyseen.g cstrictlyseen.kp cstrictlyseen.b .nil pass0 (pa_cons (pv 0) (pa_cons (pe_tup (pa_cons pe_int (pa_cons pe_int pa_nil))) pa_nil))) (pa_cons (pe_call cseen.G (hr.mono (by omega)) (by rfl) cseen.g cseen.kp cseen.b .nil pass0 (pa_cons (pe_tup (pa_cons pe_int (pa_cons pe_int (pa_cons pe_int pa_nil)))) (pa_cons (pe_tup (pa_cons pe_int (pa_cons pe_int pa_nil))) pa_nil))) pa_nil)))))
      (pss_one (ps_ret (pe_call cLsame.G (hr.mono (by omega)) (by rfl) cLsame.g cLsame.kp cLsame.b .nil pass0 (pa_cons (pv 2) (pa_cons (pe_op op_cat (pv 3) (pe_lst (pa_cons (pe_tup (pa_cons pe_int (pa_cons pe_int pa_nil))) (pa_cons (pe_tup (pa_cons pe_int (pa_cons pe_int pa_nil))) pa_nil)))) pa_nil))))))))))), ?_⟩
  have W1 : IsW [1, 1, 4, 4, 5] := W_of (by decide) (by decide) (by decide)
  refine fin_pure (b_two (m := 0) (B := fun a b F => TuI [1, 1, 4, 4, 5] a F ∧ TuI [0, 2, 3] b F) (Rn.post (e_tup (B := Cn (TuI [1, 1, 4, 4, 5]) (Cn (TuI [0, 2, 3]) (Is []))) (a_cons (e_tI (a_consI e_c (a_consI e_c (a_consI e_c (a_consI e_c (a_consI e_c a_nil))))) (by decide)) (a_cons (e_tI (a_consI e_c (a_consI e_c (a_consI e_c a_nil))) (by decide)) a_nil)) fun vs F1 a => ?_) fun v F1 s1 h => ?_) fun a b F1 s1 h => ?_) sF q
  · obtain ⟨_, _, rfl, _, _, _, rfl, _, rfl⟩ := a
    show 2 ≤ 1000; decide
  · obtain ⟨p, us, rfl, hp, _, _, rfl, h1, _, _, rfl, h2, rfl⟩ := h
    exact ⟨p, _, _, rfl, hp, h1, h2⟩
  obtain ⟨ha, hb⟩ := h
  refine b_asg (m := 0) (A := At (.l [dT [0, 3], dT [4], dT [1]])) (e_lD (aD_cons (c_within (m := 0) (l := 0) (p := [0, 2, 3]) (f := [0, 2]) (i := 5) (e_varT rfl hb) e_c (e_tI (ns := [0, 2]) (a_consI e_c (a_consI e_c a_nil)) (by decide)) (by decide) (by decide) (P_of (by decide) (by decide) (by decide)) (P_of (by decide) (by decide) (by decide)) (by decide +kernel))
      (aD_cons (c_within (m := 0) (l := 0) (p := [4]) (f := [0]) (i := 5) (e_tI (ns := [4]) (a_consI e_c a_nil) (by decide)) e_c (e_tI (ns := [0]) (a_consI e_c a_nil) (by decide)) (by decide) (by decide) (P_of (by decide) (by decide) (by decide)) (P_of (by decide) (by decide) (by decide)) (by decide +kernel))
      (aD_cons (c_within (m := 0) (l := 0) (p := [0, 1, 2]) (f := [1]) (i := 3) (e_tI (ns := [0, 1, 2]) (a_consI e_c (a_consI e_c (a_consI e_c a_nil))) (by decide)) e_c (e_tI (ns := [1]) (a_consI e_c a_nil) (by decide)) (by decide) (by decide) (P_of (by decide) (by decide) (by decide)) (P_of (by decide) (by decide) (by decide)) (by decide +kernel))
      aD_nil))) (by decide)) fun got F2 s2 hg => ?_
  refine b_asg (m := 0) (A := At (.l [dT [0, 3], dT [4], dT [1]])) (e_lD (aD_cons (e_dT (e_tI (ns := [0, 3]) (a_consI e_c (a_consI e_c a_nil)) (by decide)))
      (aD_cons (e_dT (e_tI (ns := [4]) (a_consI e_c a_nil) (by decide)))
      (aD_cons (e_dT (e_tI (ns := [1]) (a_consI e_c a_nil) (by decide)))
      aD_nil))) (by decide)) fun due F3 s3 hd => ?_
  have hg3 := At.mono _ _ _ _ s3 hg
  have ha3 := Mo.mo _ _ _ (s2.trans s3) ha
  refine b_asg (m := 0) (A := At (.l ([dT [0, 3], dT [4], dT [1]] ++ [dT [0, 1], dT [0, 1], dT [-1, 1], dT [0, 1, 2]]))) (e_catD (m := 0) (e_varD rfl hg3) (e_lD (aD_cons (c_see (M := seeM) (m := 0) (w := [1, 1, 4, 4, 5]) (p := [0, 3]) (r := [0, 1]) (e_varT rfl ha3) (e_tI (ns := [0, 3]) (a_consI e_c (a_consI e_c a_nil)) (by decide)) (by decide) (by decide) W1 (P_of (by decide) (by decide) (by decide)) (by decide +kernel))
      (aD_cons (c_see (M := seeM) (m := 0) (w := [0, 2, 2]) (p := [0, 2]) (r := [0, 1]) (e_tI (ns := [0, 2, 2]) (a_consI e_c (a_consI e_c (a_consI e_c a_nil))) (by decide)) (e_tI (ns := [0, 2]) (a_consI e_c (a_consI e_c a_nil)) (by decide)) (by decide) (by decide) (W_of (by decide) (by decide) (by decide)) (P_of (by decide) (by decide) (by decide)) (by decide +kernel))
      (aD_cons (c_see (M := strM) (m := 0) (w := [1, 1, 4, 4, 5]) (p := [1, 4]) (r := [-1, 1]) (e_varT rfl ha3) (e_tI (ns := [1, 4]) (a_consI e_c (a_consI e_c a_nil)) (by decide)) (by decide) (by decide) W1 (P_of (by decide) (by decide) (by decide)) (by decide +kernel))
      (aD_cons (c_see (M := strM) (m := 0) (w := [1, 1, 4, 4, 5]) (p := [0, 2, 4]) (r := [0, 1, 2]) (e_varT rfl ha3) (e_tI (ns := [0, 2, 4]) (a_consI e_c (a_consI e_c (a_consI e_c a_nil))) (by decide)) (by decide) (by decide) W1 (P_of (by decide) (by decide) (by decide)) (by decide +kernel))
      aD_nil)))) (by decide)) (by decide)) fun got2 F4 s4 hg4 => ?_
  have hd4 := At.mono _ _ _ _ s4 hd
  refine b_asg (m := 0) (A := At (.l ([dT [0, 3], dT [4], dT [1]] ++ [dT [0, 1], dT [0, 1], dT [-1, 1], dT [0, 1, 2]]))) (e_catD (m := 0) (e_varD rfl hd4) (e_lD (aD_cons (e_dT (e_tI (ns := [0, 1]) (a_consI e_c (a_consI e_c a_nil)) (by decide)))
      (aD_cons (e_dT (e_tI (ns := [0, 1]) (a_consI e_c (a_consI e_c a_nil)) (by decide)))
      (aD_cons (e_dT (e_tI (ns := [-1, 1]) (a_consI (e_neg e_c) (a_consI e_c a_nil)) (by decide)))
      (aD_cons (e_dT (e_tI (ns := [0, 1, 2]) (a_consI e_c (a_consI e_c (a_consI e_c a_nil))) (by decide)))
      aD_nil)))) (by decide)) (by decide)) fun due2 F5 s5 hd5 => ?_
  have hg5 := At.mono _ _ _ _ s5 hg4
  have ha5 := Mo.mo _ _ _ (s4.trans s5) ha3
  refine b_asg (m := 0) (A := At (.l (([dT [0, 3], dT [4], dT [1]] ++ [dT [0, 1], dT [0, 1], dT [-1, 1], dT [0, 1, 2]]) ++ [dT [0, 1], dT [0, 1]]))) (e_catD (m := 0) (e_varD rfl hg5) (e_lD (aD_cons (c_see (M := strM) (m := 0) (w := [1, 1, 4, 4, 5]) (p := [0, 4]) (r := [0, 1]) (e_varT rfl ha5) (e_tI (ns := [0, 4]) (a_consI e_c (a_consI e_c a_nil)) (by decide)) (by decide) (by decide) W1 (P_of (by decide) (by decide) (by decide)) (by decide +kernel))
      (aD_cons (c_see (M := seeM) (m := 0) (w := [0, 1, 2]) (p := [0, 2]) (r := [0, 1]) (e_tI (ns := [0, 1, 2]) (a_consI e_c (a_consI e_c (a_consI e_c a_nil))) (by decide)) (e_tI (ns := [0, 2]) (a_consI e_c (a_consI e_c a_nil)) (by decide)) (by decide) (by decide) (W_of (by decide) (by decide) (by decide)) (P_of (by decide) (by decide) (by decide)) (by decide +kernel))
      aD_nil)) (by decide)) (by decide)) fun got3 F6 s6 hg6 => ?_
  have hd6 := At.mono _ _ _ _ s6 hd5
  refine b_ret (c_same (m := 0) (j := 3) (d := .l (([dT [0, 3], dT [4], dT [1]] ++ [dT [0, 1], dT [0, 1], dT [-1, 1], dT [0, 1, 2]]) ++ [dT [0, 1], dT [0, 1]])) (e_varD rfl hg6) (e_catD (m := 0) (e_varD rfl hd6) (e_lD (aD_cons (e_dT (e_tI (ns := [0, 1]) (a_consI e_c (a_consI e_c a_nil)) (by decide)))
      (aD_cons (e_dT (e_tI (ns := [0, 1]) (a_consI e_c (a_consI e_c a_nil)) (by decide)))
      aD_nil)) (by decide)) (by decide)) (fit_l (by decide) fun d hd => ?_))
  simp only [List.cons_append, List.nil_append, List.mem_cons, List.not_mem_nil, or_false] at hd
  rcases hd with rfl | rfl | rfl | rfl | rfl | rfl | rfl | rfl | rfl <;> exact fit_ints (by decide)
end
end K22
set_option Elab.async false
set_option linter.all false
set_option maxRecDepth 100000
set_option maxHeartbeats 4000000
namespace K22
open PySem PySem.Spec PyProof.Rows L2 RZ
/-- three, the last one first -/
def rev3 {α : Type} : List α → List α
  | [a, b, c] => [c, b, a]
  | l => l
section
variable {P : Program} {w : World} {K : PySem.W.Frag} {mg : Str → Option Value} {base : Heap} {f f1 f2 f3 f4 f5 f6 f7 f8 f9 f10 f11 : Addr} {fd fd1 fd2 fd3 fd4 fd5 fd6 fd7 fd8 fd9 fd10 fd11 : FuncData}
/-! ## the law's one turn -/
def RLright : List V → Hp → Addr → Nat → Nat → (V → Hp → Prop) → Prop := fun vs F t n m P => vs = [.ref t] ∧ n ≤ 100 ∧ m = n + 2000 ∧ P = Is (.bl true)
theorem ok_Lright (F : Fun K "_law_right" "_law_right" sLright f fd) (B : Bt mg) (cLtake : Cl P w K mg base "_law_take" 1 ["_law_tin", "_law_below_so"] (mkSpT RLtake) f1 fd1) (cLdisk : Cl P w K mg base "_law_disk" 2 ["_law_tin", "_law_ring_so"] (mkSpT RLdisk) f2 fd2) (cLspots : Cl P w K mg base "_law_spots" 3 ["_law_tin", "_law_ring_so"] (mkSpT RLspots) f3 fd3)
    (cLlists : Cl P w K mg base "_law_lists" 2 ["_law_matter"] (mkSp RLlists) f4 fd4) (cplaceswithin : Cl P w K mg base "places_within" 5 ["places", "ring", "numbers"] (mkSp RplacesWithin) f5 fd5) (kb_places_ring_numbers : KB0 K fd5 ["places", "ring", "numbers"] ["places", "ring", "numbers"] id id) (kb_numbers_ring_places : KB0 K fd5 ["places", "ring", "numbers"] ["numbers", "ring", "places"] rev3 rev3)
    (cLsame : Cl P w K mg base "_law_same" 4 ["_law_got", "_law_due"] (mkSp (RLsame 3)) f6 fd6) (cLseen : Cl P w K mg base "_law_seen" 2 ["_law_disk_here", "_law_spots_so", "_law_strict_so"] (mkSp RLseen) f7 fd7) (cseen : Cl P w K mg base "seen" 6 ["wheel", "places"] (mkSp (RseeS seeM)) f8 fd8)
    (cstrictlyseen : Cl P w K mg base "strictly_seen" 6 ["wheel", "places"] (mkSp (RseeS strM)) f9 fd9) (cLput : Cl P w K mg base "_law_put" 2 ["_law_disks"] (mkSp RLput) f10 fd10) (callseen : Cl P w K mg base "all_seen" 5 ["train", "places"] (mkSp RallSeen) f11 fd11) : FnOk P w K mg base CX0 7 f fd ["_law_tin"] (mkSpT RLright) := by
  refine F.ok scLright (fun vs H Q E h => ?_) (fun cdv A outer s H vs Q E hr h => ?_)
  · obtain ⟨_, _, _, _, _, _, _, ⟨rfl, _⟩, _⟩ := h; rfl
  obtain ⟨F0, t, n, m, P0, sF, tn, ⟨rfl, hn, rfl, rfl⟩, q⟩ := h
  refine ⟨_, (pss_cons (ps_set (i := 1) scLright.nd rfl (Or.inl rfl) (pe_op op_add pe_int (pe_call cLtake.G (hr.mono (by omega)) (by rfl) cLtake.g cLtake.kp cLtake.b .nil pass0 (pa_cons (pv 0) (pa_cons pe_int pa_nil)))))
      (pss_cons (ps_asg (pe_tup (pa_cons (pe_call cLdisk.G (hr.mono (by omega)) (by rfl) cLdisk.g cLdisk.kp cLdisk.b .nil pass0 (pa_cons (pv 0) (pa_cons (pv 1) pa_nil))) (pa_cons (pe_call cLdisk.G (hr.mono (by omega)) (by rfl) cLdisk.g cLdisk.kp cLdisk.b .nil pass0 (pa_cons (pv 0) (pa_cons (pv 1) pa_nil))) (pa_cons (pe_call cLspots.G (hr.mono (by omega)) (by rfl) cLspots.g cLspots.kp cLspots.b .nil pass0 (pa_cons (pv 0) (pa_cons (pv 1) pa_nil))) pa_nil)))) (pg_tupK (K := K) (n := 3) rfl rfl (pgs_cons (pg_name (i := 2) scLright.nd rfl (Or.inl rfl)) (pgs_cons (pg_name (i := 3) scLright.nd rfl (Or.inl rfl)) (pgs_cons (pg_name (i := 4) scLright.nd rfl (Or.inr rfl)) pgs_nil)))))
      (pss_cons (ps_set (i := 5) scLright.nd rfl (Or.inl rfl) (pe_call cLspots.G (hr.mono (by omega)) (by rfl) cLspots.g cLspots.kp cLspots.b .nil pass0 (pa_cons (pv 0) (pa_cons (pe_callB (clen_K (K := K) rfl) (by rfl) B.len bt_len (pa_cons (pv 4) pa_nil)) pa_nil))))
      (pss_cons (ps_set (i := 6) scLright.nd rfl (Or.inl rfl) (pe_callTy cl_tup (by rfl) B.tuple bt_tuple (pa_cons (pe_lc (own := [("_law_own", 7)]) rfl scLright.nd (pi_tup (pv 5)) (blkOk_by (own := [("_law_own", 7)]) (N := NLright) (sc := defScope sLright) (by decide +kernel)) (fun _ _ _ _ _ => (pg_name (i := 7) scLright.nd rfl (Or.inl rfl))) (fun _ _ _ _ _ => pts_nil) (fun _ _ _ _ _ => (pe_ix (ixT_K (K := K) rfl) (pv 4) (pv 7) (fun _ _ => rfl)))) pa_nil)))
      (pss_cons (ps_set (i := 8) scLright.nd rfl (Or.inl rfl) (pe_lst (pa_cons (pe_callK0 cplaceswithin.G (hr.mono (by omega)) (by rfl) cplaceswithin.g cplaceswithin.kp kb_places_ring_numbers pass0 (pk_cons (pe_call cLlists.G (hr.mono (by omega)) (by rfl) cLlists.g cLlists.kp cLlists.b .nil pass0 (pa_cons (pv 4) pa_nil)) (pk_cons (pv 1) (pk_cons (pv 5) pk_nil)))) pa_nil)))
      (pss_cons (ps_set (i := 8) scLright.nd rfl (Or.inl rfl) (pe_op op_cat (pv 8) (pe_lst (pa_cons (pe_callK0 cplaceswithin.G (hr.mono (by omega)) (by rfl) cplaceswithin.g cplaceswithin.kp kb_numbers_ring_places pass0 (pk_cons (pe_callTy cl_lst (by rfl) B.list bt_list (pa_cons (pv 5) pa_nil)) (pk_cons (pv 1) (pk_cons (pv 4) pk_nil)))) pa_nil))))
      (pss_cons (ps_if (pt_not (pt_val (pe_call cLsame.G (hr.mono (by omega)) (by rfl) cLsame.g cLsame.kp cLsame.b .nil pass0 (pa_cons (pv 8) (pa_cons (pe_op op_rep (pe_lst (pa_cons (pv 6) pa_nil)) pe_int) pa_nil))))) pss_never pss_nil)
      (pss_cons (ps_par (i := 9) (j := 10) rfl scLright.nd rfl rfl (by decide) rfl rfl (pa_cons (pe_call cLseen.G (hr.mono (by omega)) (by rfl) cLseen.g cLseen.kp cLseen.b .nil pass0 (pa_cons (pv 2) (pa_cons (pv 4) (pa_cons pe_bl pa_nil)))) (pa_cons (pe_call cLseen.G (hr.mono (by omega)) (by rfl) cLseen.g cLseen.kp cLseen.b .nil pass0 (pa_cons (pv 2) (pa_cons (pv 4) (pa_cons pe_bl pa_nil)))) pa_nil)) (by rfl))
      (pss_cons (ps_set (i := 8) scLright.nd rfl (Or.inl rfl) (pe_lst (pa_cons (pe_call cseen.G (hr.mono (by omega)) (by rfl) cseen.g cseen.kp cseen.b .nil pass0 (pa_cons (pv 9) (pa_cons (pv 5) pa_nil))) (pa_cons (pe_call cseen.G (hr.mono (by omega)) (by rfl) cseen.g cseen.kp cseen.b .nil pass0 (pa_cons (pv 2) (pa_cons (pv 6) pa_nil))) (pa_cons (pe_call cseen.G (hr.mono (by omega)) (by rfl) cseen.g cseen.kp cseen.b .nil pass0 (pa_cons (pv 10) (pa_cons (pv 5) pa_nil))) (pa_cons (pe_call cstrictlyseen.G (hr.mono (by omega)) (by rfl) cstrictlyseen.g cstrictlyseen.kp cstrictlyseen.b .nil pass0 (pa_cons (pv 2) (pa_cons (pv 6) pa_nil))) pa_nil))))))
      (pss_cons (ps_set (i := 11) scLright.nd rfl (Or.inl rfl) (pe_op op_cat (pe_op op_rep (pe_lst (pa_cons (pe_call cLseen.G (hr.mono (by omega)) (by rfl) cLseen.g cLseen.kp cLseen.b .nil pass0 (pa_cons (pv 2) (pa_cons (pv 6) (pa_cons pe_bl pa_nil)))) pa_nil)) pe_int) (pe_op op_rep (pe_lst (pa_cons (pe_call cLseen.G (hr.mono (by omega)) (by rfl) cLseen.g cLseen.kp cLseen.b .nil pass0 (pa_cons (pv 2) (pa_cons (pv 6) (pa_cons pe_bl pa_nil)))) pa_nil)) pe_int)))
      (pss_cons (ps_if (pt_not (pt_val (pe_call cLsame.G (hr.mono (by omega)) (by rfl) cLsame.g cLsame.kp cLsame.b .nil pass0 (pa_cons (pv 8) (pa_cons (pv 11) pa_nil))))) pss_never pss_nil)
      (pss_cons (ps_set (i := 12) scLright.nd rfl (Or.inl rfl) (pe_call cLput.G (hr.mono (by omega)) (by rfl) cLput.g cLput.kp cLput.b .nil pass0 (pa_cons (pe_tup (pa_cons (pv 2) (pa_cons (pv 3) pa_nil))) pa_nil)))
      (pss_cons (ps_set (i := 13) scLright.nd rfl (Or.inl rfl) (pe_lst (pa_cons (pe_call cseen.G (hr.mono (by omega)) (by rfl) cseen.g cseen.kp cseen.b .nil pass0 (pa_cons (pv 12) (pa_cons (pv 4) pa_nil))) (pa_cons (pe_call callseen.G (hr.mono (by omega)) (by rfl) callseen.g callseen.kp callseen.b .nil pass0 (pa_cons (pe_tup (pa_cons (pv 2) (pa_cons (pv 3) pa_nil))) (pa_cons (pv 4) pa_nil))) pa_nil))))
      (pss_cons (ps_set (i := 14) scLright.nd rfl (Or.inl rfl) (pe_callTy cl_tup (by rfl) B.tuple bt_tuple (pa_cons (pe_lc (own := [("_law_own", 7)]) rfl scLright.nd (pi_tup (pe_tup (pa_cons (pv 2) (pa_cons (pv 3) pa_nil)))) (blkOk_by (own := [("_law_own", 7)]) (N := NLright) (sc := defScope sLright) (by decide +kernel)) (fun _ _ _ _ _ => (pg_name (i := 7) scLright.nd rfl (Or.inl rfl))) (fun _ _ _ _ _ => pts_nil) (fun _ _ _ _ _ => (pe_call cLseen.G (hr.mono (by omega)) (by rfl) cLseen.g cLseen.kp cLseen.b .nil pass0 (pa_cons (pv 7) (pa_cons (pv 4) (pa_cons pe_bl pa_nil)))))) pa_nil)))
      (pss_cons (ps_if (pt_not (pt_val (pe_call cLsame.G (hr.mono (by omega)) (by rfl) cLsame.g cLsame.kp cLsame.b .nil pass0 (pa_cons (pv 13) (pa_cons (pe_lst (pa_cons (pe_call cLseen.G (hr.mono (by omega)) (by rfl) cLseen.g cLseen.kp cLseen.b .nil pass0 (pa_cons (pv 12) (pa_cons (pv 4) (pa_cons pe_bl pa_nil)))) (pa_cons (pv 14) pa_nil))) pa_nil))))) pss_never pss_nil)
      (pss_one (ps_ret (pe_cmpR (op_eqD hr.units) (pe_lc (own := [("_law_one_so", 15), ("_law_two_so", 16)]) rfl scLright.nd (pi_zipA (by rfl) B.zip (pa_cons (pe_call cLput.G (hr.mono (by omega)) (by rfl) cLput.g cLput.kp cLput.b .nil pass0 (pa_cons (pv 14) pa_nil)) (pa_cons (pe_ix (ixL_K (K := K) rfl) (pv 13) pe_int (fun _ _ => rfl)) pa_nil))) (blkOk_by (own := [("_law_one_so", 15), ("_law_two_so", 16)]) (N := NLright) (sc := defScope sLright) (by decide +kernel)) (fun _ _ _ _ _ => (pg_tupK (K := K) (n := 2) rfl rfl (pgs_cons (pg_name (i := 15) scLright.nd rfl (Or.inl rfl)) (pgs_cons (pg_name (i := 16) scLright.nd rfl (Or.inl rfl)) pgs_nil)))) (fun _ _ _ _ _ => (pts_one (pt_cmpR op_gt (pv 15) (pv 16) (nomark _)))) (fun _ _ _ _ _ => pe_int)) (pe_lst pa_nil) (nomark _))))))))))))))))))), ?_⟩
  refine fin_tin (n := n) (m := n + 2000) (Bd.le (m := n + 603) ?_ (by omega)) sF tn q
  show Bd _ _ _ _ _ [some (V.ref t), none, none, none, none, none, none, none, none, none, none, none, none, none, none, none, none] _
  -- ring
  refine b_asg (m := n + 1) (A := N1 12) (e_op (l := n + 1) e_c (e_callT (l := n + 1) (P := Dr 12) (a_cons (e_var rfl) (a_cons e_c a_nil)) fun vs F1 s1 a => ?_) fun x y F1 s1 e d => fun F2 H2 s2 s3 tn2 Q2 r => ?_) fun v F1 s1 h1 => ?_
  · obtain ⟨_, _, rfl, rfl, _, _, rfl, rfl, rfl⟩ := a
    exact ⟨12, rfl, by decide, by decide, by omega, rfl, rfl⟩
  · cases e
    obtain ⟨d, rfl, d0, d1⟩ := d
    exact ⟨1, d, rfl, rfl, r _ F2 H2 (Gr.refl s3) tn2 ⟨1 + d, rfl, by omega, by omega⟩⟩
  simp only [List.set_cons_succ, List.set_cons_zero]
  obtain ⟨r, rfl, r1, r2⟩ := h1
  -- two wheels, places
  refine b_three (m := n + 502) (B := fun a b c F => DkP r a F ∧ DkP r b F ∧ SpP r c F) (Rn.post (e_tup (B := Cn (DkP r) (Cn (DkP r) (Cn (SpP r) (Is [])))) (a_cons (e_callT (m := n + 1) (l := n + 201) (a_cons (e_var rfl) (a_cons (e_var rfl) a_nil)) fun vs F2 s2 a => ?_) (a_cons (e_callT (m := n + 201) (l := n + 401) (a_cons (e_var rfl) (a_cons (e_var rfl) a_nil)) fun vs F2 s2 a => ?_) (a_cons (e_callT (m := n + 401) (l := n + 502) (a_cons (e_var rfl) (a_cons (e_var rfl) a_nil)) fun vs F2 s2 a => ?_) a_nil))) fun vs F2 a => ?_) fun v F2 s2 h => ?_) fun a b c F2 s2 h2 => ?_
  · obtain ⟨_, _, rfl, rfl, _, _, rfl, rfl, rfl⟩ := a
    exact ⟨r, rfl, by omega, by omega, by omega, rfl, rfl⟩
  · obtain ⟨_, _, rfl, rfl, _, _, rfl, rfl, rfl⟩ := a
    exact ⟨r, rfl, by omega, by omega, by omega, rfl, rfl⟩
  · obtain ⟨_, _, rfl, rfl, _, _, rfl, rfl, rfl⟩ := a
    exact ⟨r, rfl, by omega, by omega, by omega, rfl, rfl⟩
  · obtain ⟨_, _, rfl, _, _, _, rfl, _, _, _, rfl, _, rfl⟩ := a
    show 3 ≤ 1000; decide
  · obtain ⟨p, us, rfl, hp, _, _, rfl, h1, _, _, rfl, h2, _, _, rfl, h3, rfl⟩ := h
    exact ⟨p, _, _, _, rfl, hp, h1, h2, h3⟩
  simp only [List.set_cons_succ, List.set_cons_zero]
  obtain ⟨⟨d, hd, dW, dl⟩, ⟨o, ho, oW, ol⟩, ⟨p, hp, pP, pl⟩⟩ := h2
  subst dl
  have hol : o.length = d.length := by omega
  have d0 : 0 < d.length := dW.pos
  have d999 : d.length ≤ 999 := by omega
  have o999 : o.length ≤ 999 := by omega
  have p999 : p.length ≤ 999 := by omega
  have p0 : 0 < p.length := pP.pos
  obtain ⟨pd, rfl, hpd⟩ := id hd
  obtain ⟨po, rfl, hpo⟩ := id ho
  obtain ⟨pp, rfl, hpp⟩ := id hp
  have hLp : ((p.map V.int).length : Int) = (p.length : Int) := by rw [List.length_map]
  -- places of the places
  refine b_asg (m := n + 603) (A := SpP (p.length : Int)) (e_callT (m := n + 502) (l := n + 603) (a_cons (e_var rfl) (a_cons (e_lenT (e_var rfl) hpp) a_nil)) fun vs F3 s3 a => ?_) fun v F3 s3 h3 => ?_
  · obtain ⟨_, _, rfl, rfl, _, _, rfl, rfl, rfl⟩ := a
    exact ⟨(p.length : Int), by rw [hLp], by omega, by omega, by omega, rfl, rfl⟩
  simp only [List.set_cons_succ, List.set_cons_zero]
  obtain ⟨g, hg, gP, gl⟩ := h3
  obtain ⟨pg, rfl, hpg⟩ := id hg
  have g999 : g.length ≤ 999 := by omega
  have hd := Mo.mo _ _ _ s3 hd
  have ho := Mo.mo _ _ _ s3 ho
  have hp := Mo.mo _ _ _ s3 hp
  have hpp := s3 _ _ hpp
  generalize hN : n + 603 = N
  have LP : IsP (pick p g) (d.length : Int) := pick_places pP gP
  have L999 : (pick p g).length ≤ 999 := by rw [pick_len]; exact g999
  -- least
  refine b_asg (m := N) (A := TuI (pick p g)) (Rn.post (e_tupO (e_lcI (f := fun k => ga p k) (i_tup (e_var rfl) hpg) g999 (fun _ => rfl) fun u F4 hu s4 => ?_)) fun v F4 s4 h => nt_tuI h) fun v F4 s4 hL => ?_
  · have hm := mem_place gP hu
    exact e_ixT (e_var rfl) (s4 _ _ hpp) (e_var rfl) (atI_ga hm.1 hm.2)
  simp only [List.set_cons_succ, List.set_cons_zero]
  have hd := Mo.mo _ _ _ s4 hd
  have ho := Mo.mo _ _ _ s4 ho
  have hp := Mo.mo _ _ _ s4 hp
  have hg := Mo.mo _ _ _ s4 hg
  have hpg := s4 _ _ hpg
  -- places_within, by keywords
  refine b_asg (m := N) (A := At (.l [dT (pick p g)])) (e_lD (aD_cons (e_dT (e_callK0 (B := Cn (LsI p) (Cn (Is (.int (d.length : Int))) (Cn (TuI g) (Is [])))) (a_cons (e_call (a_cons (e_varT rfl hp) a_nil) fun vs F5 s5 a => ?_) (a_cons (e_var rfl) (a_cons (e_varT rfl hg) a_nil))) (fun vs F5 a => ?_) fun vs F5 s5 a => ?_)) aD_nil) (by show 1 ≤ 1000; decide)) fun got F5 s5 hgot => ?_
  · obtain ⟨_, _, rfl, h1, rfl⟩ := a
    exact ⟨_, p, rfl, h1, p999, rfl⟩
  · obtain ⟨_, _, rfl, _, _, _, rfl, _, _, _, rfl, _, rfl⟩ := a
    rfl
  · obtain ⟨_, _, rfl, h1, _, _, rfl, rfl, _, _, rfl, h2, rfl⟩ := a
    exact ⟨_, _, (d.length : Int), dL p, dT g, p, g, rfl, lsI_iff.mpr h1, .inr rfl, tuI_at h2, .inl rfl, p999, g999, pP, gP, rfl⟩
  simp only [List.set_cons_succ, List.set_cons_zero]
  have hd := Mo.mo _ _ _ s5 hd
  have ho := Mo.mo _ _ _ s5 ho
  have hp := Mo.mo _ _ _ s5 hp
  have hg := Mo.mo _ _ _ s5 hg
  have hpg := s5 _ _ hpg
  have hL := Mo.mo _ _ _ s5 hL
  refine b_asg (m := N) (A := At (.l ([dT (pick p g)] ++ [dT (pick p g)]))) (e_catD (m := N) (e_varD rfl hgot) (e_lD (aD_cons (e_dT (e_callK0 (B := Cn (LsI g) (Cn (Is (.int (d.length : Int))) (Cn (TuI p) (Is [])))) (a_cons (Rn.post (e_lstO (e_var rfl) hpg) fun v F6 s6 h => nl_lsI h) (a_cons (e_var rfl) (a_cons (e_varT rfl hp) a_nil))) (fun vs F6 a => ?_) fun vs F6 s6 a => ?_)) aD_nil) (by show 1 ≤ 1000; decide)) (by show 2 ≤ 1000; decide)) fun got2 F6 s6 hgot2 => ?_
  · obtain ⟨_, _, rfl, _, _, _, rfl, _, _, _, rfl, _, rfl⟩ := a
    rfl
  · obtain ⟨_, _, rfl, h1, _, _, rfl, rfl, _, _, rfl, h2, rfl⟩ := a
    exact ⟨_, _, (d.length : Int), dT p, dL g, p, g, rfl, tuI_at h2, .inl rfl, lsI_iff.mpr h1, .inr rfl, p999, g999, pP, gP, rfl⟩
  simp only [List.set_cons_succ, List.set_cons_zero]
  have hd := Mo.mo _ _ _ s6 hd
  have ho := Mo.mo _ _ _ s6 ho
  have hp := Mo.mo _ _ _ s6 hp
  have hg := Mo.mo _ _ _ s6 hg
  have hL := Mo.mo _ _ _ s6 hL
  refine b_skip (m := N) (t_not (t_val (c_same (m := N) (j := 3) (d := .l [dT (pick p g), dT (pick p g)]) (e_varD rfl hgot2) (e_rep2D (m := N) (e_lD (aD_cons (e_dT (e_varT rfl hL)) aD_nil) (by show 1 ≤ 1000; decide)) e_c) (fit_l (by show 2 ≤ 999; decide) fun x hx => ?_)))) ?_
  · simp only [List.mem_cons, List.not_mem_nil, or_false, or_self] at hx
    rw [hx]; exact fit_ints L999
  -- seen once
  have SP : IsP g ((seeM d p).length : Int) := by rw [seeM_len]; exact gP
  have SP2 : IsP g ((strM d p).length : Int) := by rw [strM_len]; exact gP
  refine b_par (m := N) (A := At (dT (seeM d p))) (B := At (dT (strM d p))) (a_cons (c_lsee (m := N) (l := N) (e_varT rfl hd) (e_varT rfl hp) e_c d0 d999 p999 (lseM_false pP)) (a_cons (c_lsee (m := N) (l := N) (e_varT rfl hd) (e_varT rfl hp) e_c d0 d999 p999 (lseM_true pP)) a_nil)) fun once strict F7 s7 honce hstrict => ?_
  simp only [List.set_cons_succ, List.set_cons_zero]
  have hd := Mo.mo _ _ _ s7 hd
  have ho := Mo.mo _ _ _ s7 ho
  have hp := Mo.mo _ _ _ s7 hp
  have hg := Mo.mo _ _ _ s7 hg
  have hL := Mo.mo _ _ _ s7 hL
  have honce := tuI_iff.mp honce
  have hstrict := tuI_iff.mp hstrict
  refine b_asg (m := N) (A := At (.l [dT (seeM d (pick p g)), dT (seeM d (pick p g)), dT (strM d (pick p g)), dT (strM d (pick p g))])) (e_lD (aD_cons (c_see (M := seeM) (m := N) (e_varT rfl honce) (e_varT rfl hg) (by rw [seeM_len]; exact p999) g999 (seeM_wheel dW pP) SP (twice pP gP)) (aD_cons (c_see (M := seeM) (m := N) (e_varT rfl hd) (e_varT rfl hL) d999 L999 dW LP rfl) (aD_cons (c_see (M := seeM) (m := N) (e_varT rfl hstrict) (e_varT rfl hg) (by rw [strM_len]; exact p999) g999 (strM_wheel dW pP) SP2 (twice_str pP gP)) (aD_cons (c_see (M := strM) (m := N) (e_varT rfl hd) (e_varT rfl hL) d999 L999 dW LP rfl) aD_nil)))) (by show 4 ≤ 1000; decide)) fun got3 F8 s8 hgot3 => ?_
  simp only [List.set_cons_succ, List.set_cons_zero]
  have hd := Mo.mo _ _ _ s8 hd
  have ho := Mo.mo _ _ _ s8 ho
  have hp := Mo.mo _ _ _ s8 hp
  have hL := Mo.mo _ _ _ s8 hL
  refine b_asg (m := N) (A := At (.l ([dT (seeM d (pick p g)), dT (seeM d (pick p g))] ++ [dT (strM d (pick p g)), dT (strM d (pick p g))]))) (e_catD (m := N) (e_rep2D (m := N) (e_lD (aD_cons (c_lsee (m := N) (l := N) (e_varT rfl hd) (e_varT rfl hL) e_c d0 d999 L999 (lseM_false LP)) aD_nil) (by show 1 ≤ 1000; decide)) e_c) (e_rep2D (m := N) (e_lD (aD_cons (c_lsee (m := N) (l := N) (e_varT rfl hd) (e_varT rfl hL) e_c d0 d999 L999 (lseM_true LP)) aD_nil) (by show 1 ≤ 1000; decide)) e_c) (by show 4 ≤ 1000; decide)) fun due F9 s9 hdue => ?_
  simp only [List.set_cons_succ, List.set_cons_zero]
  have hd := Mo.mo _ _ _ s9 hd
  have ho := Mo.mo _ _ _ s9 ho
  have hp := Mo.mo _ _ _ s9 hp
  have hgot3 := At.mono _ _ _ _ s9 hgot3
  have eS : (seeM d (pick p g)).length ≤ 999 := by rw [seeM_len]; exact L999
  have eT : (strM d (pick p g)).length ≤ 999 := by rw [strM_len]; exact L999
  refine b_skip (m := N) (t_not (t_val (c_same (m := N) (j := 3) (d := .l [dT (seeM d (pick p g)), dT (seeM d (pick p g)), dT (strM d (pick p g)), dT (strM d (pick p g))]) (e_varD rfl hgot3) (e_varD rfl hdue) (fit_l (by show 4 ≤ 999; decide) fun x hx => ?_)))) ?_
  · simp only [List.mem_cons, List.not_mem_nil, or_false] at hx
    rcases hx with rfl | rfl | rfl | rfl
    · exact fit_ints eS
    · exact fit_ints eS
    · exact fit_ints eT
    · exact fit_ints eT
  -- put together
  have o0 : 0 < o.length := oW.pos
  have bW : IsW (putM d o) := putM_wheel dW oW hol
  have bl : (putM d o).length = d.length := putM_len d o
  have bP : IsP p ((putM d o).length : Int) := by rw [bl]; exact pP
  refine b_asg (m := N) (A := TuI (putM d o)) (e_call (a_cons (e_tD (ds := [dT d, dT o]) (aD_cons (e_dT (e_varT rfl hd)) (aD_cons (e_dT (e_varT rfl ho)) aD_nil)) (by show 2 ≤ 1000; decide)) a_nil) fun vs F10 s10 a => ?_) fun both F10 s10 hboth => ?_
  · obtain ⟨_, _, rfl, h1, rfl⟩ := a
    exact ⟨_, d, o, rfl, h1, d0, d999, o0, o999, rfl⟩
  simp only [List.set_cons_succ, List.set_cons_zero]
  have hd := Mo.mo _ _ _ s10 hd
  have ho := Mo.mo _ _ _ s10 ho
  have hp := Mo.mo _ _ _ s10 hp
  refine b_asg (m := N) (A := At (.l [dT (seeM (putM d o) p), .t [dT (seeM d p), dT (seeM o p)]])) (e_lD (aD_cons (c_see (M := seeM) (m := N) (e_varT rfl hboth) (e_varT rfl hp) (by rw [bl]; exact d999) p999 bW bP rfl) (aD_cons (e_call (a_cons (e_tD (ds := [dT d, dT o]) (aD_cons (e_dT (e_varT rfl hd)) (aD_cons (e_dT (e_varT rfl ho)) aD_nil)) (by show 2 ≤ 1000; decide)) (a_cons (e_varT rfl hp) a_nil)) fun vs F11 s11 a => ?_) aD_nil)) (by show 2 ≤ 1000; decide)) fun told F11 s11 htold => ?_
  · obtain ⟨_, _, rfl, h1, _, _, rfl, h2, rfl⟩ := a
    exact ⟨_, _, d, o, p, rfl, h1, h2, d999, p999, dW, oW, hol, pP, rfl⟩
  simp only [List.set_cons_succ, List.set_cons_zero]
  have hd := Mo.mo _ _ _ s11 hd
  have ho := Mo.mo _ _ _ s11 ho
  have hp := Mo.mo _ _ _ s11 hp
  have hboth := Mo.mo _ _ _ s11 hboth
  have oP : IsP p (o.length : Int) := by rw [hol]; exact pP
  have hxs : AtL [dT d, dT o] [.ref pd, .ref po] F11 := by
    rw [atL_cons, atL_cons, atL_nil]
    exact ⟨_, _, rfl, tuI_at hd, _, _, rfl, tuI_at ho, rfl⟩
  refine b_asg (m := N) (A := At (.t [dT (seeM d p), dT (seeM o p)])) (Rn.post (e_tupO (lc_at (g := fun e => dT (seeM (intsD e) p)) (ds := [dT d, dT o]) hxs (i_tupN (A := Is []) (e_tup (a_consI (e_var rfl) (a_consI (e_var rfl) a_nil)) fun vs F12 e => ?_)) (by show 2 ≤ 999; decide) (fun _ => rfl) fun e x F12 he hx12 s12 => ?_)) fun v F12 s12 h => ?_) fun pair F12 s12 hpair => ?_
  · cases e
    show 2 ≤ 1000; decide
  · have hp12 := Mo.mo _ _ _ s12 hp
    rcases List.mem_cons.mp he with e1 | e1
    · subst e1
      rw [intsD_dT]
      exact c_lsee (m := N) (l := N) (e_varT rfl (tuI_iff.mp hx12)) (e_varT rfl hp12) e_c d0 d999 p999 (lseM_false pP)
    · have e2 := List.mem_singleton.mp e1
      subst e2
      rw [intsD_dT]
      exact c_lsee (m := N) (l := N) (e_varT rfl (tuI_iff.mp hx12)) (e_varT rfl hp12) e_c o0 o999 p999 (lseM_false oP)
  · have h' : NT (AtL [dT (seeM (intsD (dT d)) p), dT (seeM (intsD (dT o)) p)]) v F12 := h
    rw [intsD_dT, intsD_dT] at h'
    rw [at_t]
    exact h'
  simp only [List.set_cons_succ, List.set_cons_zero]
  have hp := Mo.mo _ _ _ s12 hp
  have hboth := Mo.mo _ _ _ s12 hboth
  have htold := At.mono _ _ _ _ s12 htold
  have eB : (seeM (putM d o) p).length = p.length := seeM_len _ _
  have eD : (seeM d p).length = p.length := seeM_len _ _
  have eO : (seeM o p).length = p.length := seeM_len _ _
  refine b_skip (m := N) (t_not (t_val (c_same (m := N) (j := 3) (d := .l [dT (seeM (putM d o) p), .t [dT (seeM d p), dT (seeM o p)]]) (e_varD rfl htold) (e_lD (aD_cons (c_lsee (m := N) (l := N) (e_varT rfl hboth) (e_varT rfl hp) e_c (by omega) (by omega) p999 (lseM_false bP)) (aD_cons (e_varD rfl hpair) aD_nil)) (by show 2 ≤ 1000; decide)) (fit_l (by show 2 ≤ 999; decide) fun x hx => ?_)))) ?_
  · simp only [List.mem_cons, List.not_mem_nil, or_false] at hx
    rcases hx with rfl | rfl
    · exact fit_ints (by omega)
    · exact fit_pair (k := 0) (by omega) (by omega)
  -- put together seen is at least seen put together
  rw [at_l, atL_cons, atL_cons, atL_nil] at htold
  obtain ⟨pt, _, rfl, hpt, v1, _, rfl, hv1, v2, _, rfl, hv2, rfl⟩ := htold
  have hv1 := tuI_iff.mp hv1
  obtain ⟨p1, rfl, hp1⟩ := id hv1
  have eP : (putM (seeM d p) (seeM o p)).length = p.length := by rw [putM_len]; exact eD
  refine b_ret (e_op (A := NL (Is [])) (B := NL (Is [])) (e_lcZ0 (len := p.length) ?_ (i_zipT (m := N) (xs := (putM (seeM d p) (seeM o p)).map V.int) (ys := (seeM (putM d o) p).map V.int) (Rn.post (P := TuI (putM (seeM d p) (seeM o p))) (e_call (a_cons (e_varD rfl hpair) a_nil) fun vs F13 s13 a => ?_) fun v F13 s13 h => ?_) (nt_of (e_ixL (e_var rfl) hpt e_c (show atI [V.ref p1, v2] (0 : Int) = some (.ref p1) from rfl)) hp1)) p999 (fun _ _ => rfl) fun i x y F13 hx hy s13 => ?_) (e_lst (B := Is []) a_nil fun vs F13 e => by cases e; decide) fun x y F13 s13 hx hy => ?_)
  · rw [List.length_map, List.length_map, eP, eB]; omega
  · obtain ⟨_, _, rfl, h1, rfl⟩ := a
    exact ⟨_, seeM d p, seeM o p, rfl, h1, by omega, by omega, by omega, by omega, rfl⟩
  · obtain ⟨q1, rfl, hq1⟩ := h
    exact ⟨q1, _, rfl, hq1, rfl⟩
  · rw [List.getElem?_map] at hx hy
    obtain ⟨a, ha, rfl⟩ := Option.map_eq_some_iff.mp hx
    obtain ⟨b, hb, rfl⟩ := Option.map_eq_some_iff.mp hy
    have hi : i < p.length := by
      have := (List.getElem?_eq_some_iff.mp hb).1
      omega
    have key := put_seen dW oW hol pP hi
    have ea : (putM (seeM d p) (seeM o p)).getD i 0 = a := by rw [List.getD_eq_getElem?_getD, ha]; rfl
    have eb : (seeM (putM d o) p).getD i 0 = b := by rw [List.getD_eq_getElem?_getD, hb]; rfl
    rw [ea, eb] at key
    refine t_to (t_test (e_int0 (i := a) (j := b) (e_var rfl) (e_var rfl))) ?_
    exact decide_eq_false (by omega)
  · obtain ⟨q1, _, rfl, h1, e1⟩ := hx
    obtain ⟨q2, _, rfl, h2, e2⟩ := hy
    cases e1
    cases e2
    exact fun F14 H14 s14 s15 tn14 Q2 r => ⟨.list [], .list [], .lst (.inl (.inl (s15 _ _ (s14 _ _ h1)))) .nil, .lst (.inl (.inl (s15 _ _ (s14 _ _ h2)))) .nil, rfl, rfl, r _ F14 H14 (Gr.refl s15) tn14 rfl⟩
end
end K22
set_option Elab.async false
set_option linter.all false
set_option maxRecDepth 100000
set_option maxHeartbeats 4000000
namespace K22
open PySem PySem.Spec PyProof.Rows L2 RZ
section
variable {T : Option Addr} {F F0 F1 F2 H H0 H1 H2 : Hp} {n m l k : Nat}
theorem y_skip {σ : L2.St} {tc : TT} {tu tz : TS} {D : Ends} (sF : Same F H) (tn : Tn T n F H) (hc : Rn T n m F (Is false) (tc σ)) (k : ∀ F1 H1, Gr T F H F1 H1 → Tn T m F1 H1 → tz D σ H1) : tSeq (tIfS tc tu tNext) tz D σ H :=
  hc F H (Same.refl _) sF tn _ fun v F1 H1 g t e => by
    cases e
    exact k F1 H1 g t
end
section
variable {P : Program} {w : World} {K : PySem.W.Frag} {mg : Str → Option Value} {base : Heap} {f f1 f2 f3 f4 : Addr} {fd fd1 fd2 fd3 fd4 : FuncData}
/-! ## the law -/
def spLaw (K : PySem.W.Frag) : Sp := fun vs H Q _ => ∃ a ns, vs = [.ref a] ∧ SqL K H a ((ns : List Int).map V.int) ∧ ns.length ≤ 63 ∧ ∀ G, Q (.bl true) G
theorem ok_law (F : Fun K "law" "law" slaw f fd) (B : Bt mg) (cLbyhandright : Cl P w K mg base "_law_by_hand_right" 7 [] (mkSp RLbyhand) f1 fd1) (cLcells : Cl P w K mg base "_law_cells" 1 ["_law_script", "_law_most_so"] (spCells K) f2 fd2) (cLbox : Cl P w K mg base "_law_box" 1 ["_law_script", "_law_k"] spBox f3 fd3)
    (cLright : Cl P w K mg base "_law_right" 7 ["_law_tin"] (mkSpT RLright) f4 fd4) : FnOk P w K mg base CX0 8 f fd ["_law_script"] (spLaw K) := by
  refine F.ok sclaw (fun vs H Q E h => ?_) (fun cdv A outer s H vs Q E hr h => ?_)
  · obtain ⟨_, _, rfl, _⟩ := h; rfl
  obtain ⟨a, ns, rfl, hS, hl, q⟩ := h
  refine ⟨_, (pss_cons (ps_if (pt_not (pt_val (pe_call0 cLbyhandright.G (hr.mono (by omega)) (by rfl) cLbyhandright.g cLbyhandright.kp cLbyhandright.b .nil pass0))) pss_never pss_nil)
      (pss_cons (ps_set (i := 1) sclaw.nd rfl (Or.inr rfl) (pe_call cLcells.G (hr.mono (by omega)) (by rfl) cLcells.g cLcells.kp cLcells.b .nil pass0 (pa_cons (pv 0) (pa_cons pe_int pa_nil))))
      (pss_one (ps_ret (pe_callB (cr_all rfl) (by rfl) B.all bt_all (pa_cons (pe_lc (own := [("_law_k", 2)]) rfl sclaw.nd (pi_range1 (by rfl) B.range (pa_cons (pe_callB (clen_K (K := K) rfl) (by rfl) B.len bt_len (pa_cons (pv 1) pa_nil)) pa_nil)) (blkOk_by (own := [("_law_k", 2)]) (N := Nlaw) (sc := defScope slaw) (by decide +kernel)) (fun _ _ _ _ _ => (pg_name (i := 2) sclaw.nd rfl (Or.inl rfl))) (fun _ _ _ _ _ => pts_nil) (fun _ _ _ _ _ => (pe_call cLright.G (hr.mono (by omega)) (by rfl) cLright.g cLright.kp cLright.b .nil pass0 (pa_cons (pe_call cLbox.G (hr.mono (by omega)) (by rfl) cLbox.g cLbox.kp cLbox.b .nil pass0 (pa_cons (pv 1) (pa_cons (pv 2) pa_nil))) pa_nil)))) pa_nil)))))), ?_⟩
  have s0 : Same (fun _ => none) H := fun b o e => by cases e
  refine y_skip (n := 0) (m := 0) s0 tn0 (t_not (t_val (b := true) (e_call0 fun F1 s1 => ⟨rfl, rfl⟩))) fun F1 H1 g1 _ => ?_
  have s1 : Same H H1 := fun b o e => g1.hh b o (by simp) e
  refine ⟨.ref a, rfl, a, ns, rfl, s1.seq hS, hl, fun cs p H2 c0 c2 hp s2 e2 => ?_⟩
  refine y_ret (T := none) (n := 0) (m := 0) (F := upd (fun _ => none) p (.lst (cs.map V.int))) (same_know (fun b o e => by cases e) e2) tn0 (e_all (e_lcRA (val := fun i => (i : Int)) (len := (((cs.map V.int).length : Int)).toNat) (i_rng (e_lenL (e_var rfl) upd_same) ?_) ?_ (fun _ => rfl) fun i F3 hi s3 => ?_)) fun v F3 H3 g3 _ e => ?_
  · rw [List.length_map]; omega
  · rw [List.length_map]; omega
  · rw [List.length_map] at hi
    intro F4 H4 s4 s5 _ Q2 r
    have hp4 : F4 p = some (.lst (cs.map V.int)) := s4 _ _ (s3 _ _ upd_same)
    refine ⟨.ref p, rfl, .int (i : Int), rfl, F4, p, cs, (i : Int), s5, rfl, hp4, by omega, by omega, by omega, fun x y tp H5 htp g5 e5 => ?_⟩
    have ftp : F4 tp = none := s5.free htp
    refine ⟨F4, tp, 0, 2000, Is (.bl true), g5.fh, fun t e => by cases e; exact ⟨ftp, x, y, 0, e5, by decide, by decide⟩, ⟨rfl, by decide, rfl, rfl⟩, fun v F6 H6 g6 _ e6 => ?_⟩
    refine r v F6 H6 ⟨g6.ff, fun b o _ e => g6.hh b o (fun z => ?_) (g5.hh b o (by simp) e), g6.fh, fun b e => ?_, fun b e => g6.st b (g5.st b e)⟩ tn0 e6
    · cases z
      rw [htp] at e; cases e
    · rcases g6.nw b e with z | z
      · exact .inl z
      · exact .inr (g5.free z)
  · cases e
    exact q _
/-! ## keywords -/
theorem kb1 (F : Fun K "places_within" "places_within" splaceswithin f fd) : KB0 K fd ["places", "ring", "numbers"] ["places", "ring", "numbers"] id id := by
  obtain ⟨_, _, _, _, _, _, _, _, _, rfl, _, _⟩ := F.ex
  exact ⟨fun s ws hl => match ws, hl with | [_, _, _], _ => .of_eq rfl, fun _ r => r⟩
theorem kb2 (F : Fun K "places_within" "places_within" splaceswithin f fd) : KB0 K fd ["places", "ring", "numbers"] ["numbers", "ring", "places"] rev3 rev3 := by
  obtain ⟨_, _, _, _, _, _, _, _, _, rfl, _, _⟩ := F.ex
  refine ⟨fun s ws hl => match ws, hl with | [_, _, _], _ => .of_eq rfl, fun {zs ws} hl r => ?_⟩
  cases r with
  | nil => cases hl
  | cons r1 t1 =>
    cases t1 with
    | nil => cases hl
    | cons r2 t2 =>
      cases t2 with
      | nil => cases hl
      | cons r3 t3 =>
        cases t3 with
        | nil => exact .cons r3 (.cons r2 (.cons r1 .nil))
        | cons r4 t4 => cases hl
end
end K22
set_option Elab.async false
set_option linter.all false
set_option maxRecDepth 100000
set_option maxHeartbeats 4000000
namespace K22
open PySem PySem.Spec PyProof.Rows L2 RZ
/-! ## what the top has written; the law's own head -/
theorem all_mk {l : PySem.W.OpenLaw} {w : World} {K : PySem.W.Frag} {h : Heap} {mg : Str → Option Value} {fa f1 f2 f3 f4 f5 f6 f7 f8 f9 f10 f11 f12 f13 f14 f15 f16 f17 f18 f19 f20 f21 f22 f23 f24 f25 f26 f27 f28 f29 f30 f31 f32 f33 f34 f35 : Addr} (X : K.In h) (G : h.Ns mainGlobals mg) (hfa : mg "law" = some (.ref fa))
    {od1 an1 od2 an2 od3 an3 od4 an4 od5 an5 od6 an6 od7 an7 od8 an8 od9 an9 od10 an10 od11 an11 od12 an12 od13 an13 od14 an14 od15 an15 od16 an16 od17 an17 od18 an18 od19 an19 od20 an20 od21 an21 od22 an22 od23 an23 od24 an24 od25 an25 od26 an26 od27 an27 od28 an28 od29 an29 od30 an30 od31 an31 od32 an32 od33 an33 od34 an34 od35 an35 : Option Addr} {sl1 sl2 sl3 sl4 sl5 sl6 sl7 sl8 sl9 sl10 sl11 sl12 sl13 sl14 sl15 sl16 sl17 sl18 sl19 sl20 sl21 sl22 sl23 sl24 sl25 sl26 sl27 sl28 sl29 sl30 sl31 sl32 sl33 sl34 sl35 : Array (Option Value)}
    {oc1 kV1 dc1 pm1 cd1 ct1 oc2 kV2 dc2 pm2 cd2 ct2 oc3 kV3 dc3 pm3 cd3 ct3 oc4 kV4 dc4 pm4 cd4 ct4 oc5 kV5 dc5 pm5 cd5 ct5 oc6 kV6 dc6 pm6 cd6 ct6 oc7 kV7 dc7 pm7 cd7 ct7 oc8 kV8 dc8 pm8 cd8 ct8 oc9 kV9 dc9 pm9 cd9 ct9 oc10 kV10 dc10 pm10 cd10 ct10 oc11 kV11 dc11 pm11 cd11 ct11 oc12 kV12 dc12 pm12 cd12 ct12 oc13 kV13 dc13 pm13 cd13 ct13 oc14 kV14 dc14 pm14 cd14 ct14 oc15 kV15 dc15 pm15 cd15 ct15 oc16 kV16 dc16 pm16 cd16 ct16 oc17 kV17 dc17 pm17 cd17 ct17 oc18 kV18 dc18 pm18 cd18 ct18 oc19 kV19 dc19 pm19 cd19 ct19 oc20 kV20 dc20 pm20 cd20 ct20 oc21 kV21 dc21 pm21 cd21 ct21 oc22 kV22 dc22 pm22 cd22 ct22 oc23 kV23 dc23 pm23 cd23 ct23 oc24 kV24 dc24 pm24 cd24 ct24 oc25 kV25 dc25 pm25 cd25 ct25 oc26 kV26 dc26 pm26 cd26 ct26 oc27 kV27 dc27 pm27 cd27 ct27 oc28 kV28 dc28 pm28 cd28 ct28 oc29 kV29 dc29 pm29 cd29 ct29 oc30 kV30 dc30 pm30 cd30 ct30 oc31 kV31 dc31 pm31 cd31 ct31 oc32 kV32 dc32 pm32 cd32 ct32 oc33 kV33 dc33 pm33 cd33 ct33 oc34 kV34 dc34 pm34 cd34 ct34 oc35 kV35 dc35 pm35 cd35 ct35 : Value}
    (a1 : PySem.W.nsIn K mainGlobals "is_number" = some (some (.ref f1))) (l1 : K.lookup f1 = some ⟨oc1, od1, .func (PySem.W.fnOf "is_number" "is_number" (defArgs sisnumber) (defBody sisnumber) (defScope sisnumber) .none kV1 dc1 pm1 an1 cd1 ct1), sl1⟩) (c1 : PySem.W.codeIn K cd1 "is_number" = true) (k1 : PySem.W.keepIn K (.ref f1) = true)
    (a2 : PySem.W.nsIn K mainGlobals "is_from" = some (some (.ref f2))) (l2 : K.lookup f2 = some ⟨oc2, od2, .func (PySem.W.fnOf "is_from" "is_from" (defArgs sisfrom) (defBody sisfrom) (defScope sisfrom) .none kV2 dc2 pm2 an2 cd2 ct2), sl2⟩) (c2 : PySem.W.codeIn K cd2 "is_from" = true) (k2 : PySem.W.keepIn K (.ref f2) = true)
    (a3 : PySem.W.nsIn K mainGlobals "tupled" = some (some (.ref f3))) (l3 : K.lookup f3 = some ⟨oc3, od3, .func (PySem.W.fnOf "tupled" "tupled" (defArgs stupled) (defBody stupled) (defScope stupled) .none kV3 dc3 pm3 an3 cd3 ct3), sl3⟩) (c3 : PySem.W.codeIn K cd3 "tupled" = true) (k3 : PySem.W.keepIn K (.ref f3) = true)
    (a4 : PySem.W.nsIn K mainGlobals "ascends" = some (some (.ref f4))) (l4 : K.lookup f4 = some ⟨oc4, od4, .func (PySem.W.fnOf "ascends" "ascends" (defArgs sascends) (defBody sascends) (defScope sascends) .none kV4 dc4 pm4 an4 cd4 ct4), sl4⟩) (c4 : PySem.W.codeIn K cd4 "ascends" = true) (k4 : PySem.W.keepIn K (.ref f4) = true)
    (a5 : PySem.W.nsIn K mainGlobals "are_numbers" = some (some (.ref f5))) (l5 : K.lookup f5 = some ⟨oc5, od5, .func (PySem.W.fnOf "are_numbers" "are_numbers" (defArgs sarenumbers) (defBody sarenumbers) (defScope sarenumbers) .none kV5 dc5 pm5 an5 cd5 ct5), sl5⟩) (c5 : PySem.W.codeIn K cd5 "are_numbers" = true) (k5 : PySem.W.keepIn K (.ref f5) = true)
    (a6 : PySem.W.nsIn K mainGlobals "is_wheel" = some (some (.ref f6))) (l6 : K.lookup f6 = some ⟨oc6, od6, .func (PySem.W.fnOf "is_wheel" "is_wheel" (defArgs siswheel) (defBody siswheel) (defScope siswheel) .none kV6 dc6 pm6 an6 cd6 ct6), sl6⟩) (c6 : PySem.W.codeIn K cd6 "is_wheel" = true) (k6 : PySem.W.keepIn K (.ref f6) = true)
    (a7 : PySem.W.nsIn K mainGlobals "sure_wheel" = some (some (.ref f7))) (l7 : K.lookup f7 = some ⟨oc7, od7, .func (PySem.W.fnOf "sure_wheel" "sure_wheel" (defArgs ssurewheel) (defBody ssurewheel) (defScope ssurewheel) .none kV7 dc7 pm7 an7 cd7 ct7), sl7⟩) (c7 : PySem.W.codeIn K cd7 "sure_wheel" = true) (k7 : PySem.W.keepIn K (.ref f7) = true)
    (a8 : PySem.W.nsIn K mainGlobals "is_train" = some (some (.ref f8))) (l8 : K.lookup f8 = some ⟨oc8, od8, .func (PySem.W.fnOf "is_train" "is_train" (defArgs sistrain) (defBody sistrain) (defScope sistrain) .none kV8 dc8 pm8 an8 cd8 ct8), sl8⟩) (c8 : PySem.W.codeIn K cd8 "is_train" = true) (k8 : PySem.W.keepIn K (.ref f8) = true)
    (a9 : PySem.W.nsIn K mainGlobals "sure_train" = some (some (.ref f9))) (l9 : K.lookup f9 = some ⟨oc9, od9, .func (PySem.W.fnOf "sure_train" "sure_train" (defArgs ssuretrain) (defBody ssuretrain) (defScope ssuretrain) .none kV9 dc9 pm9 an9 cd9 ct9), sl9⟩) (c9 : PySem.W.codeIn K cd9 "sure_train" = true) (k9 : PySem.W.keepIn K (.ref f9) = true)
    (a10 : PySem.W.nsIn K mainGlobals "is_places_in" = some (some (.ref f10))) (l10 : K.lookup f10 = some ⟨oc10, od10, .func (PySem.W.fnOf "is_places_in" "is_places_in" (defArgs sisplacesin) (defBody sisplacesin) (defScope sisplacesin) .none kV10 dc10 pm10 an10 cd10 ct10), sl10⟩) (c10 : PySem.W.codeIn K cd10 "is_places_in" = true) (k10 : PySem.W.keepIn K (.ref f10) = true)
    (a11 : PySem.W.nsIn K mainGlobals "sure_places" = some (some (.ref f11))) (l11 : K.lookup f11 = some ⟨oc11, od11, .func (PySem.W.fnOf "sure_places" "sure_places" (defArgs ssureplaces) (defBody ssureplaces) (defScope ssureplaces) .none kV11 dc11 pm11 an11 cd11 ct11), sl11⟩) (c11 : PySem.W.codeIn K cd11 "sure_places" = true) (k11 : PySem.W.keepIn K (.ref f11) = true)
    (a12 : PySem.W.nsIn K mainGlobals "ahead_in" = some (some (.ref f12))) (l12 : K.lookup f12 = some ⟨oc12, od12, .func (PySem.W.fnOf "ahead_in" "ahead_in" (defArgs saheadin) (defBody saheadin) (defScope saheadin) .none kV12 dc12 pm12 an12 cd12 ct12), sl12⟩) (c12 : PySem.W.codeIn K cd12 "ahead_in" = true) (k12 : PySem.W.keepIn K (.ref f12) = true)
    (a13 : PySem.W.nsIn K mainGlobals "seen_in" = some (some (.ref f13))) (l13 : K.lookup f13 = some ⟨oc13, od13, .func (PySem.W.fnOf "seen_in" "seen_in" (defArgs sseenin) (defBody sseenin) (defScope sseenin) .none kV13 dc13 pm13 an13 cd13 ct13), sl13⟩) (c13 : PySem.W.codeIn K cd13 "seen_in" = true) (k13 : PySem.W.keepIn K (.ref f13) = true)
    (a14 : PySem.W.nsIn K mainGlobals "strictly_in" = some (some (.ref f14))) (l14 : K.lookup f14 = some ⟨oc14, od14, .func (PySem.W.fnOf "strictly_in" "strictly_in" (defArgs sstrictlyin) (defBody sstrictlyin) (defScope sstrictlyin) .none kV14 dc14 pm14 an14 cd14 ct14), sl14⟩) (c14 : PySem.W.codeIn K cd14 "strictly_in" = true) (k14 : PySem.W.keepIn K (.ref f14) = true)
    (a15 : PySem.W.nsIn K mainGlobals "both_sure" = some (some (.ref f15))) (l15 : K.lookup f15 = some ⟨oc15, od15, .func (PySem.W.fnOf "both_sure" "both_sure" (defArgs sbothsure) (defBody sbothsure) (defScope sbothsure) .none kV15 dc15 pm15 an15 cd15 ct15), sl15⟩) (c15 : PySem.W.codeIn K cd15 "both_sure" = true) (k15 : PySem.W.keepIn K (.ref f15) = true)
    (a16 : PySem.W.nsIn K mainGlobals "seen" = some (some (.ref f16))) (l16 : K.lookup f16 = some ⟨oc16, od16, .func (PySem.W.fnOf "seen" "seen" (defArgs sseen) (defBody sseen) (defScope sseen) .none kV16 dc16 pm16 an16 cd16 ct16), sl16⟩) (c16 : PySem.W.codeIn K cd16 "seen" = true) (k16 : PySem.W.keepIn K (.ref f16) = true)
    (a17 : PySem.W.nsIn K mainGlobals "strictly_seen" = some (some (.ref f17))) (l17 : K.lookup f17 = some ⟨oc17, od17, .func (PySem.W.fnOf "strictly_seen" "strictly_seen" (defArgs sstrictlyseen) (defBody sstrictlyseen) (defScope sstrictlyseen) .none kV17 dc17 pm17 an17 cd17 ct17), sl17⟩) (c17 : PySem.W.codeIn K cd17 "strictly_seen" = true) (k17 : PySem.W.keepIn K (.ref f17) = true)
    (a18 : PySem.W.nsIn K mainGlobals "all_seen" = some (some (.ref f18))) (l18 : K.lookup f18 = some ⟨oc18, od18, .func (PySem.W.fnOf "all_seen" "all_seen" (defArgs sallseen) (defBody sallseen) (defScope sallseen) .none kV18 dc18 pm18 an18 cd18 ct18), sl18⟩) (c18 : PySem.W.codeIn K cd18 "all_seen" = true) (k18 : PySem.W.keepIn K (.ref f18) = true)
    (a19 : PySem.W.nsIn K mainGlobals "places_within" = some (some (.ref f19))) (l19 : K.lookup f19 = some ⟨oc19, od19, .func (PySem.W.fnOf "places_within" "places_within" (defArgs splaceswithin) (defBody splaceswithin) (defScope splaceswithin) .none kV19 dc19 pm19 an19 cd19 ct19), sl19⟩) (c19 : PySem.W.codeIn K cd19 "places_within" = true) (k19 : PySem.W.keepIn K (.ref f19) = true)
    (a20 : PySem.W.nsIn K mainGlobals "_law_box" = some (some (.ref f20))) (l20 : K.lookup f20 = some ⟨oc20, od20, .func (PySem.W.fnOf "_law_box" "_law_box" (defArgs sLbox) (defBody sLbox) (defScope sLbox) .none kV20 dc20 pm20 an20 cd20 ct20), sl20⟩) (c20 : PySem.W.codeIn K cd20 "_law_box" = true) (k20 : PySem.W.keepIn K (.ref f20) = true)
    (a21 : PySem.W.nsIn K mainGlobals "_law_take" = some (some (.ref f21))) (l21 : K.lookup f21 = some ⟨oc21, od21, .func (PySem.W.fnOf "_law_take" "_law_take" (defArgs sLtake) (defBody sLtake) (defScope sLtake) .none kV21 dc21 pm21 an21 cd21 ct21), sl21⟩) (c21 : PySem.W.codeIn K cd21 "_law_take" = true) (k21 : PySem.W.keepIn K (.ref f21) = true)
    (a22 : PySem.W.nsIn K mainGlobals "_law_cells" = some (some (.ref f22))) (l22 : K.lookup f22 = some ⟨oc22, od22, .func (PySem.W.fnOf "_law_cells" "_law_cells" (defArgs sLcells) (defBody sLcells) (defScope sLcells) .none kV22 dc22 pm22 an22 cd22 ct22), sl22⟩) (c22 : PySem.W.codeIn K cd22 "_law_cells" = true) (k22 : PySem.W.keepIn K (.ref f22) = true)
    (a23 : PySem.W.nsIn K mainGlobals "_law_pick" = some (some (.ref f23))) (l23 : K.lookup f23 = some ⟨oc23, od23, .func (PySem.W.fnOf "_law_pick" "_law_pick" (defArgs sLpick) (defBody sLpick) (defScope sLpick) .none kV23 dc23 pm23 an23 cd23 ct23), sl23⟩) (c23 : PySem.W.codeIn K cd23 "_law_pick" = true) (k23 : PySem.W.keepIn K (.ref f23) = true)
    (a24 : PySem.W.nsIn K mainGlobals "_law_lists" = some (some (.ref f24))) (l24 : K.lookup f24 = some ⟨oc24, od24, .func (PySem.W.fnOf "_law_lists" "_law_lists" (defArgs sLlists) (defBody sLlists) (defScope sLlists) .none kV24 dc24 pm24 an24 cd24 ct24), sl24⟩) (c24 : PySem.W.codeIn K cd24 "_law_lists" = true) (k24 : PySem.W.keepIn K (.ref f24) = true)
    (a25 : PySem.W.nsIn K mainGlobals "_law_same" = some (some (.ref f25))) (l25 : K.lookup f25 = some ⟨oc25, od25, .func (PySem.W.fnOf "_law_same" "_law_same" (defArgs sLsame) (defBody sLsame) (defScope sLsame) .none kV25 dc25 pm25 an25 cd25 ct25), sl25⟩) (c25 : PySem.W.codeIn K cd25 "_law_same" = true) (k25 : PySem.W.keepIn K (.ref f25) = true)
    (a26 : PySem.W.nsIn K mainGlobals "_law_led" = some (some (.ref f26))) (l26 : K.lookup f26 = some ⟨oc26, od26, .func (PySem.W.fnOf "_law_led" "_law_led" (defArgs sLled) (defBody sLled) (defScope sLled) .none kV26 dc26 pm26 an26 cd26 ct26), sl26⟩) (c26 : PySem.W.codeIn K cd26 "_law_led" = true) (k26 : PySem.W.keepIn K (.ref f26) = true)
    (a27 : PySem.W.nsIn K mainGlobals "_law_shift" = some (some (.ref f27))) (l27 : K.lookup f27 = some ⟨oc27, od27, .func (PySem.W.fnOf "_law_shift" "_law_shift" (defArgs sLshift) (defBody sLshift) (defScope sLshift) .none kV27 dc27 pm27 an27 cd27 ct27), sl27⟩) (c27 : PySem.W.codeIn K cd27 "_law_shift" = true) (k27 : PySem.W.keepIn K (.ref f27) = true)
    (a28 : PySem.W.nsIn K mainGlobals "_law_put" = some (some (.ref f28))) (l28 : K.lookup f28 = some ⟨oc28, od28, .func (PySem.W.fnOf "_law_put" "_law_put" (defArgs sLput) (defBody sLput) (defScope sLput) .none kV28 dc28 pm28 an28 cd28 ct28), sl28⟩) (c28 : PySem.W.codeIn K cd28 "_law_put" = true) (k28 : PySem.W.keepIn K (.ref f28) = true)
    (a29 : PySem.W.nsIn K mainGlobals "_law_name_ahead" = some (some (.ref f29))) (l29 : K.lookup f29 = some ⟨oc29, od29, .func (PySem.W.fnOf "_law_name_ahead" "_law_name_ahead" (defArgs sLnameahead) (defBody sLnameahead) (defScope sLnameahead) .none kV29 dc29 pm29 an29 cd29 ct29), sl29⟩) (c29 : PySem.W.codeIn K cd29 "_law_name_ahead" = true) (k29 : PySem.W.keepIn K (.ref f29) = true)
    (a30 : PySem.W.nsIn K mainGlobals "_law_seen" = some (some (.ref f30))) (l30 : K.lookup f30 = some ⟨oc30, od30, .func (PySem.W.fnOf "_law_seen" "_law_seen" (defArgs sLseen) (defBody sLseen) (defScope sLseen) .none kV30 dc30 pm30 an30 cd30 ct30), sl30⟩) (c30 : PySem.W.codeIn K cd30 "_law_seen" = true) (k30 : PySem.W.keepIn K (.ref f30) = true)
    (a31 : PySem.W.nsIn K mainGlobals "_law_disk" = some (some (.ref f31))) (l31 : K.lookup f31 = some ⟨oc31, od31, .func (PySem.W.fnOf "_law_disk" "_law_disk" (defArgs sLdisk) (defBody sLdisk) (defScope sLdisk) .none kV31 dc31 pm31 an31 cd31 ct31), sl31⟩) (c31 : PySem.W.codeIn K cd31 "_law_disk" = true) (k31 : PySem.W.keepIn K (.ref f31) = true)
    (a32 : PySem.W.nsIn K mainGlobals "_law_spots" = some (some (.ref f32))) (l32 : K.lookup f32 = some ⟨oc32, od32, .func (PySem.W.fnOf "_law_spots" "_law_spots" (defArgs sLspots) (defBody sLspots) (defScope sLspots) .none kV32 dc32 pm32 an32 cd32 ct32), sl32⟩) (c32 : PySem.W.codeIn K cd32 "_law_spots" = true) (k32 : PySem.W.keepIn K (.ref f32) = true)
    (a33 : PySem.W.nsIn K mainGlobals "_law_by_hand_right" = some (some (.ref f33))) (l33 : K.lookup f33 = some ⟨oc33, od33, .func (PySem.W.fnOf "_law_by_hand_right" "_law_by_hand_right" (defArgs sLbyhandright) (defBody sLbyhandright) (defScope sLbyhandright) .none kV33 dc33 pm33 an33 cd33 ct33), sl33⟩) (c33 : PySem.W.codeIn K cd33 "_law_by_hand_right" = true) (k33 : PySem.W.keepIn K (.ref f33) = true)
    (a34 : PySem.W.nsIn K mainGlobals "_law_right" = some (some (.ref f34))) (l34 : K.lookup f34 = some ⟨oc34, od34, .func (PySem.W.fnOf "_law_right" "_law_right" (defArgs sLright) (defBody sLright) (defScope sLright) .none kV34 dc34 pm34 an34 cd34 ct34), sl34⟩) (c34 : PySem.W.codeIn K cd34 "_law_right" = true) (k34 : PySem.W.keepIn K (.ref f34) = true)
    (a35 : PySem.W.nsIn K mainGlobals "law" = some (some (.ref f35))) (l35 : K.lookup f35 = some ⟨oc35, od35, .func (PySem.W.fnOf "law" "law" (defArgs slaw) (defBody slaw) (defScope slaw) .none kV35 dc35 pm35 an35 cd35 ct35), sl35⟩) (c35 : PySem.W.codeIn K cd35 "law" = true) (k35 : PySem.W.keepIn K (.ref f35) = true)
    (z_len : PySem.W.nsIn K mainGlobals "len" = some none) (z_isinstance : PySem.W.nsIn K mainGlobals "isinstance" = some none) (z_all : PySem.W.nsIn K mainGlobals "all" = some none) (z_abs : PySem.W.nsIn K mainGlobals "abs" = some none) (z_min : PySem.W.nsIn K mainGlobals "min" = some none) (z_max : PySem.W.nsIn K mainGlobals "max" = some none) (z_sorted : PySem.W.nsIn K mainGlobals "sorted" = some none) (z_int : PySem.W.nsIn K mainGlobals "int" = some none) (z_bool : PySem.W.nsIn K mainGlobals "bool" = some none) (z_str : PySem.W.nsIn K mainGlobals "str" = some none) (z_list : PySem.W.nsIn K mainGlobals "list" = some none) (z_tuple : PySem.W.nsIn K mainGlobals "tuple" = some none) (z_range : PySem.W.nsIn K mainGlobals "range" = some none) (z_zip : PySem.W.nsIn K mainGlobals "zip" = some none) (z_enumerate : PySem.W.nsIn K mainGlobals "enumerate" = some none) :
    ∃ fd : FuncData, (∀ (s : Shared) (v : Value), BindsTo s fd ⟨[v], []⟩ [("_law_script", v)]) ∧ ∀ base : Heap, K.In base → base.Ns mainGlobals mg → FnOk l.prog w K mg base CX0 8 fa fd ["_law_script"] (spLaw K) := by
  have e := hfa.symm.trans (PySem.W.mg_of X G a35)
  cases e
  have B : Bt mg := ⟨PySem.W.mg_none_of X G z_len, PySem.W.mg_none_of X G z_isinstance, PySem.W.mg_none_of X G z_all, PySem.W.mg_none_of X G z_abs, PySem.W.mg_none_of X G z_min, PySem.W.mg_none_of X G z_max, PySem.W.mg_none_of X G z_sorted, PySem.W.mg_none_of X G z_int, PySem.W.mg_none_of X G z_bool, PySem.W.mg_none_of X G z_str, PySem.W.mg_none_of X G z_list, PySem.W.mg_none_of X G z_tuple, PySem.W.mg_none_of X G z_range, PySem.W.mg_none_of X G z_zip, PySem.W.mg_none_of X G z_enumerate⟩
  have F1 := fun_mk (st := sisnumber) l1 c1 k1
  have b1 := F1.binds (ps := ["thing"]) fun _ _ _ _ _ _ us hl => match us, hl with | [_], _ => rfl
  have g1 := PySem.W.mg_of X G a1
  have F2 := fun_mk (st := sisfrom) l2 c2 k2
  have b2 := F2.binds (ps := ["thing", "least"]) fun _ _ _ _ _ _ us hl => match us, hl with | [_, _], _ => rfl
  have g2 := PySem.W.mg_of X G a2
  have F3 := fun_mk (st := stupled) l3 c3 k3
  have b3 := F3.binds (ps := ["value"]) fun _ _ _ _ _ _ us hl => match us, hl with | [_], _ => rfl
  have g3 := PySem.W.mg_of X G a3
  have F4 := fun_mk (st := sascends) l4 c4 k4
  have b4 := F4.binds (ps := ["row"]) fun _ _ _ _ _ _ us hl => match us, hl with | [_], _ => rfl
  have g4 := PySem.W.mg_of X G a4
  have F5 := fun_mk (st := sarenumbers) l5 c5 k5
  have b5 := F5.binds (ps := ["thing"]) fun _ _ _ _ _ _ us hl => match us, hl with | [_], _ => rfl
  have g5 := PySem.W.mg_of X G a5
  have F6 := fun_mk (st := siswheel) l6 c6 k6
  have b6 := F6.binds (ps := ["thing"]) fun _ _ _ _ _ _ us hl => match us, hl with | [_], _ => rfl
  have g6 := PySem.W.mg_of X G a6
  have F7 := fun_mk (st := ssurewheel) l7 c7 k7
  have b7 := F7.binds (ps := ["wheel"]) fun _ _ _ _ _ _ us hl => match us, hl with | [_], _ => rfl
  have g7 := PySem.W.mg_of X G a7
  have F8 := fun_mk (st := sistrain) l8 c8 k8
  have b8 := F8.binds (ps := ["thing"]) fun _ _ _ _ _ _ us hl => match us, hl with | [_], _ => rfl
  have g8 := PySem.W.mg_of X G a8
  have F9 := fun_mk (st := ssuretrain) l9 c9 k9
  have b9 := F9.binds (ps := ["train"]) fun _ _ _ _ _ _ us hl => match us, hl with | [_], _ => rfl
  have g9 := PySem.W.mg_of X G a9
  have F10 := fun_mk (st := sisplacesin) l10 c10 k10
  have b10 := F10.binds (ps := ["ring", "thing"]) fun _ _ _ _ _ _ us hl => match us, hl with | [_, _], _ => rfl
  have g10 := PySem.W.mg_of X G a10
  have F11 := fun_mk (st := ssureplaces) l11 c11 k11
  have b11 := F11.binds (ps := ["places", "ring"]) fun _ _ _ _ _ _ us hl => match us, hl with | [_, _], _ => rfl
  have g11 := PySem.W.mg_of X G a11
  have F12 := fun_mk (st := saheadin) l12 c12 k12
  have b12 := F12.binds (ps := ["places", "ring", "number"]) fun _ _ _ _ _ _ us hl => match us, hl with | [_, _, _], _ => rfl
  have g12 := PySem.W.mg_of X G a12
  have F13 := fun_mk (st := sseenin) l13 c13 k13
  have b13 := F13.binds (ps := ["wheel", "places"]) fun _ _ _ _ _ _ us hl => match us, hl with | [_, _], _ => rfl
  have g13 := PySem.W.mg_of X G a13
  have F14 := fun_mk (st := sstrictlyin) l14 c14 k14
  have b14 := F14.binds (ps := ["wheel", "places"]) fun _ _ _ _ _ _ us hl => match us, hl with | [_, _], _ => rfl
  have g14 := PySem.W.mg_of X G a14
  have F15 := fun_mk (st := sbothsure) l15 c15 k15
  have b15 := F15.binds (ps := ["wheel", "places"]) fun _ _ _ _ _ _ us hl => match us, hl with | [_, _], _ => rfl
  have g15 := PySem.W.mg_of X G a15
  have F16 := fun_mk (st := sseen) l16 c16 k16
  have b16 := F16.binds (ps := ["wheel", "places"]) fun _ _ _ _ _ _ us hl => match us, hl with | [_, _], _ => rfl
  have g16 := PySem.W.mg_of X G a16
  have F17 := fun_mk (st := sstrictlyseen) l17 c17 k17
  have b17 := F17.binds (ps := ["wheel", "places"]) fun _ _ _ _ _ _ us hl => match us, hl with | [_, _], _ => rfl
  have g17 := PySem.W.mg_of X G a17
  have F18 := fun_mk (st := sallseen) l18 c18 k18
  have b18 := F18.binds (ps := ["train", "places"]) fun _ _ _ _ _ _ us hl => match us, hl with | [_, _], _ => rfl
  have g18 := PySem.W.mg_of X G a18
  have F19 := fun_mk (st := splaceswithin) l19 c19 k19
  have b19 := F19.binds (ps := ["places", "ring", "numbers"]) fun _ _ _ _ _ _ us hl => match us, hl with | [_, _, _], _ => rfl
  have g19 := PySem.W.mg_of X G a19
  have F20 := fun_mk (st := sLbox) l20 c20 k20
  have b20 := F20.binds (ps := ["_law_script", "_law_k"]) fun _ _ _ _ _ _ us hl => match us, hl with | [_, _], _ => rfl
  have g20 := PySem.W.mg_of X G a20
  have F21 := fun_mk (st := sLtake) l21 c21 k21
  have b21 := F21.binds (ps := ["_law_tin", "_law_below_so"]) fun _ _ _ _ _ _ us hl => match us, hl with | [_, _], _ => rfl
  have g21 := PySem.W.mg_of X G a21
  have F22 := fun_mk (st := sLcells) l22 c22 k22
  have b22 := F22.binds (ps := ["_law_script", "_law_most_so"]) fun _ _ _ _ _ _ us hl => match us, hl with | [_, _], _ => rfl
  have g22 := PySem.W.mg_of X G a22
  have F23 := fun_mk (st := sLpick) l23 c23 k23
  have b23 := F23.binds (ps := ["_law_tin", "_law_goods_so", "_law_count_so"]) fun _ _ _ _ _ _ us hl => match us, hl with | [_, _, _], _ => rfl
  have g23 := PySem.W.mg_of X G a23
  have F24 := fun_mk (st := sLlists) l24 c24 k24
  have b24 := F24.binds (ps := ["_law_matter"]) fun _ _ _ _ _ _ us hl => match us, hl with | [_], _ => rfl
  have g24 := PySem.W.mg_of X G a24
  have F25 := fun_mk (st := sLsame) l25 c25 k25
  have b25 := F25.binds (ps := ["_law_got", "_law_due"]) fun _ _ _ _ _ _ us hl => match us, hl with | [_, _], _ => rfl
  have g25 := PySem.W.mg_of X G a25
  have F26 := fun_mk (st := sLled) l26 c26 k26
  have b26 := F26.binds (ps := ["_law_disk_here", "_law_z"]) fun _ _ _ _ _ _ us hl => match us, hl with | [_, _], _ => rfl
  have g26 := PySem.W.mg_of X G a26
  have F27 := fun_mk (st := sLshift) l27 c27 k27
  have b27 := F27.binds (ps := ["_law_ring_so", "_law_m"]) fun _ _ _ _ _ _ us hl => match us, hl with | [_, _], _ => rfl
  have g27 := PySem.W.mg_of X G a27
  have F28 := fun_mk (st := sLput) l28 c28 k28
  have b28 := F28.binds (ps := ["_law_disks"]) fun _ _ _ _ _ _ us hl => match us, hl with | [_], _ => rfl
  have g28 := PySem.W.mg_of X G a28
  have F29 := fun_mk (st := sLnameahead) l29 c29 k29
  have b29 := F29.binds (ps := ["_law_spots_so", "_law_ring_so", "_law_z", "_law_strict_so"]) fun _ _ _ _ _ _ us hl => match us, hl with | [_, _, _, _], _ => rfl
  have g29 := PySem.W.mg_of X G a29
  have F30 := fun_mk (st := sLseen) l30 c30 k30
  have b30 := F30.binds (ps := ["_law_disk_here", "_law_spots_so", "_law_strict_so"]) fun _ _ _ _ _ _ us hl => match us, hl with | [_, _, _], _ => rfl
  have g30 := PySem.W.mg_of X G a30
  have F31 := fun_mk (st := sLdisk) l31 c31 k31
  have b31 := F31.binds (ps := ["_law_tin", "_law_ring_so"]) fun _ _ _ _ _ _ us hl => match us, hl with | [_, _], _ => rfl
  have g31 := PySem.W.mg_of X G a31
  have F32 := fun_mk (st := sLspots) l32 c32 k32
  have b32 := F32.binds (ps := ["_law_tin", "_law_ring_so"]) fun _ _ _ _ _ _ us hl => match us, hl with | [_, _], _ => rfl
  have g32 := PySem.W.mg_of X G a32
  have F33 := fun_mk (st := sLbyhandright) l33 c33 k33
  have b33 := F33.binds (ps := []) fun _ _ _ _ _ _ us hl => match us, hl with | [], _ => rfl
  have g33 := PySem.W.mg_of X G a33
  have F34 := fun_mk (st := sLright) l34 c34 k34
  have b34 := F34.binds (ps := ["_law_tin"]) fun _ _ _ _ _ _ us hl => match us, hl with | [_], _ => rfl
  have g34 := PySem.W.mg_of X G a34
  have F35 := fun_mk (st := slaw) l35 c35 k35
  have g35 := PySem.W.mg_of X G a35
  refine ⟨PySem.W.fnOf "law" "law" (defArgs slaw) (defBody slaw) (defScope slaw) .none kV35 dc35 pm35 an35 cd35 ct35, fun s v => .of_eq rfl, fun base _ _ => ?_⟩
  have C1 : Cl l.prog w K mg base "is_number" 1 ["thing"] (mkSp RisNumber) f1 _ := ⟨ok_isnumber F1 B, g1, F1.kp, b1⟩
  have C2 : Cl l.prog w K mg base "is_from" 2 ["thing", "least"] (mkSp RisFrom) f2 _ := ⟨ok_isfrom F2 B C1, g2, F2.kp, b2⟩
  have C3 : Cl l.prog w K mg base "tupled" 3 ["value"] (mkSp (Rtupled 2)) f3 _ := ⟨none_tupled F3 B 2 g3 b3, g3, F3.kp, b3⟩
  have C4 : Cl l.prog w K mg base "ascends" 1 ["row"] (mkSp Rascends) f4 _ := ⟨ok_ascends F4 B, g4, F4.kp, b4⟩
  have C5 : Cl l.prog w K mg base "are_numbers" 2 ["thing"] (mkSp RareNumbers) f5 _ := ⟨ok_arenumbers F5 B C1, g5, F5.kp, b5⟩
  have C6 : Cl l.prog w K mg base "is_wheel" 2 ["thing"] (mkSp RisWheel) f6 _ := ⟨ok_iswheel F6 B C1, g6, F6.kp, b6⟩
  have C7 : Cl l.prog w K mg base "sure_wheel" 4 ["wheel"] (mkSp RsureWheel) f7 _ := ⟨ok_surewheel F7 B C3 C6, g7, F7.kp, b7⟩
  have C8 : Cl l.prog w K mg base "is_train" 3 ["thing"] (mkSp RisTrain) f8 _ := ⟨ok_istrain F8 B C6, g8, F8.kp, b8⟩
  have C9 : Cl l.prog w K mg base "sure_train" 4 ["train"] (mkSp RsureTrain) f9 _ := ⟨ok_suretrain F9 B C3 C8, g9, F9.kp, b9⟩
  have C10 : Cl l.prog w K mg base "is_places_in" 3 ["ring", "thing"] (mkSp RisPlacesIn) f10 _ := ⟨ok_isplacesin F10 B C5 C4, g10, F10.kp, b10⟩
  have C11 : Cl l.prog w K mg base "sure_places" 4 ["places", "ring"] (mkSp RsurePlaces) f11 _ := ⟨ok_sureplaces F11 B C3 C2 C10, g11, F11.kp, b11⟩
  have C12 : Cl l.prog w K mg base "ahead_in" 1 ["places", "ring", "number"] (mkSp RaheadIn) f12 _ := ⟨ok_aheadin F12 B, g12, F12.kp, b12⟩
  have C13 : Cl l.prog w K mg base "seen_in" 2 ["wheel", "places"] (mkSp (Rsee seeM)) f13 _ := ⟨ok_seenin F13 B C12, g13, F13.kp, b13⟩
  have C14 : Cl l.prog w K mg base "strictly_in" 2 ["wheel", "places"] (mkSp (Rsee strM)) f14 _ := ⟨ok_strictlyin F14 B C12, g14, F14.kp, b14⟩
  have C15 : Cl l.prog w K mg base "both_sure" 5 ["wheel", "places"] (mkSp RbothSure) f15 _ := ⟨ok_bothsure F15 B C7 C11, g15, F15.kp, b15⟩
  have C16 : Cl l.prog w K mg base "seen" 6 ["wheel", "places"] (mkSp (RseeS seeM)) f16 _ := ⟨ok_seen F16 B C15 C13, g16, F16.kp, b16⟩
  have C17 : Cl l.prog w K mg base "strictly_seen" 6 ["wheel", "places"] (mkSp (RseeS strM)) f17 _ := ⟨ok_strictlyseen F17 B C15 C14, g17, F17.kp, b17⟩
  have C18 : Cl l.prog w K mg base "all_seen" 5 ["train", "places"] (mkSp RallSeen) f18 _ := ⟨ok_allseen F18 B C9 C11 C13, g18, F18.kp, b18⟩
  have C19 : Cl l.prog w K mg base "places_within" 5 ["places", "ring", "numbers"] (mkSp RplacesWithin) f19 _ := ⟨ok_placeswithin F19 B C2 C11, g19, F19.kp, b19⟩
  have C20 : Cl l.prog w K mg base "_law_box" 1 ["_law_script", "_law_k"] (spBox) f20 _ := ⟨ok_Lbox F20 B, g20, F20.kp, b20⟩
  have C21 : Cl l.prog w K mg base "_law_take" 1 ["_law_tin", "_law_below_so"] (mkSpT RLtake) f21 _ := ⟨ok_Ltake F21 B, g21, F21.kp, b21⟩
  have C22 : Cl l.prog w K mg base "_law_cells" 1 ["_law_script", "_law_most_so"] (spCells K) f22 _ := ⟨ok_Lcells F22 B, g22, F22.kp, b22⟩
  have C23 : Cl l.prog w K mg base "_law_pick" 2 ["_law_tin", "_law_goods_so", "_law_count_so"] (mkSpT RLpick) f23 _ := ⟨ok_Lpick F23 B C21, g23, F23.kp, b23⟩
  have C24 : Cl l.prog w K mg base "_law_lists" 2 ["_law_matter"] (mkSp RLlists) f24 _ := ⟨ok_Llists F24 B ⟨ok_Llists0 F24 B g24 b24, g24, F24.kp, b24⟩, g24, F24.kp, b24⟩
  have C25 : Cl l.prog w K mg base "_law_same" 4 ["_law_got", "_law_due"] (mkSp (RLsame 3)) f25 _ := ⟨ok_Lsame F25 B 3 g25 b25, g25, F25.kp, b25⟩
  have C26 : Cl l.prog w K mg base "_law_led" 1 ["_law_disk_here", "_law_z"] (mkSp RLled) f26 _ := ⟨ok_Lled F26 B, g26, F26.kp, b26⟩
  have C27 : Cl l.prog w K mg base "_law_shift" 1 ["_law_ring_so", "_law_m"] (mkSp RLshift) f27 _ := ⟨ok_Lshift F27 B, g27, F27.kp, b27⟩
  have C28 : Cl l.prog w K mg base "_law_put" 2 ["_law_disks"] (mkSp RLput) f28 _ := ⟨ok_Lput F28 B C26, g28, F28.kp, b28⟩
  have C29 : Cl l.prog w K mg base "_law_name_ahead" 1 ["_law_spots_so", "_law_ring_so", "_law_z", "_law_strict_so"] (mkSp RLname) f29 _ := ⟨ok_Lname F29 B, g29, F29.kp, b29⟩
  have C30 : Cl l.prog w K mg base "_law_seen" 2 ["_law_disk_here", "_law_spots_so", "_law_strict_so"] (mkSp RLseen) f30 _ := ⟨ok_Lseen F30 B C26 C29, g30, F30.kp, b30⟩
  have C31 : Cl l.prog w K mg base "_law_disk" 2 ["_law_tin", "_law_ring_so"] (mkSpT RLdisk) f31 _ := ⟨ok_Ldisk F31 B C21 C27, g31, F31.kp, b31⟩
  have C32 : Cl l.prog w K mg base "_law_spots" 3 ["_law_tin", "_law_ring_so"] (mkSpT RLspots) f32 _ := ⟨ok_Lspots F32 B C21 C23, g32, F32.kp, b32⟩
  have C33 : Cl l.prog w K mg base "_law_by_hand_right" 7 [] (mkSp RLbyhand) f33 _ := ⟨ok_Lbyhand F33 B C19 C16 C17 C25, g33, F33.kp, b33⟩
  have C34 : Cl l.prog w K mg base "_law_right" 7 ["_law_tin"] (mkSpT RLright) f34 _ := ⟨ok_Lright F34 B C21 C31 C32 C24 C19 (kb1 F19) (kb2 F19) C25 C30 C16 C17 C28 C18, g34, F34.kp, b34⟩
  exact ok_law F35 B C33 C22 C20 C34
abbrev Law (K : PySem.W.Frag) (P : Program) (w : World) (mg : Str → Option Value) (fa : Addr) : Prop :=
  ∃ fd : FuncData, (∀ (s : Shared) (u : Value), BindsTo s fd ⟨[u], []⟩ [("_law_script", u)]) ∧ ∀ base : Heap, K.In base → base.Ns mainGlobals mg → FnOk P w K mg base CX0 8 fa fd ["_law_script"] (spLaw K)
theorem walk {l : PySem.W.OpenLaw} {q : Program} {loose : List Str} {XP : (Str → Option Value) → Heap → Prop} {YP : World → Heap → Prop} {d : DefRec} {K : Params → PySem.W.Frag} (h63 : l.most = some 63) (nodef : d.params.defaults = []) (hY : ∀ (w : World) (h : Heap), YP w h → (K w.params).In h)
    (F : ∀ (w : World) (mg : Str → Option Value) (fa : Addr) (h : Heap), (K w.params).In h → h.Ns mainGlobals mg → mg d.name = some (.ref fa) → Law (K w.params) l.prog w mg fa) : PySem.W.WalkO q loose XP YP l.row.toRowW d [] (fun f vs => PySem.call f vs) :=
  L2.walk_of (n := 63) (k := 8) (x := "_law_script") (CX := fun _ => CX0) (sp := fun w => spLaw (K w.params)) h63 (by decide) nodef ⟨rfl, by decide, by decide⟩ hY F (fun _ _ a ns hl _ hS => ⟨a, ns, rfl, hS, hl, fun _ => rfl⟩) fun _ _ _ _ _ z => z
end K22
open PySem PySem.W PyProof.Rows
set_option maxRecDepth 100000 in
set_option maxHeartbeats 0 in
theorem PySem.Challenge.cw_bothwheels_k22_whole_seen_twice_is_seen_holds : PySem.Challenge.rw_bothwheels_k22_whole_seen_twice_is_seen.Holds := by
  w_on; o_law; k_head; (case hw => w_witness2)
  k_fill
  refine K22.walk (l := PySem.Challenge.rw_bothwheels_k22_whole_seen_twice_is_seen) rfl rfl (fun w h Y => PySem.W.kIn_of Y) ?F
  case F =>
    intro w mg fa h KX G hmg
    refine' K22.all_mk KX G hmg ?a1 ?l1 ?c1 ?k1 ?a2 ?l2 ?c2 ?k2 ?a3 ?l3 ?c3 ?k3 ?a4 ?l4 ?c4 ?k4 ?a5 ?l5 ?c5 ?k5 ?a6 ?l6 ?c6 ?k6 ?a7 ?l7 ?c7 ?k7 ?a8 ?l8 ?c8 ?k8 ?a9 ?l9 ?c9 ?k9 ?a10 ?l10 ?c10 ?k10 ?a11 ?l11 ?c11 ?k11 ?a12 ?l12 ?c12 ?k12 ?a13 ?l13 ?c13 ?k13 ?a14 ?l14 ?c14 ?k14 ?a15 ?l15 ?c15 ?k15 ?a16 ?l16 ?c16 ?k16 ?a17 ?l17 ?c17 ?k17 ?a18 ?l18 ?c18 ?k18 ?a19 ?l19 ?c19 ?k19 ?a20 ?l20 ?c20 ?k20 ?a21 ?l21 ?c21 ?k21 ?a22 ?l22 ?c22 ?k22 ?a23 ?l23 ?c23 ?k23 ?a24 ?l24 ?c24 ?k24 ?a25 ?l25 ?c25 ?k25 ?a26 ?l26 ?c26 ?k26 ?a27 ?l27 ?c27 ?k27 ?a28 ?l28 ?c28 ?k28 ?a29 ?l29 ?c29 ?k29 ?a30 ?l30 ?c30 ?k30 ?a31 ?l31 ?c31 ?k31 ?a32 ?l32 ?c32 ?k32 ?a33 ?l33 ?c33 ?k33 ?a34 ?l34 ?c34 ?k34 ?a35 ?l35 ?c35 ?k35 ?z_len ?z_isinstance ?z_all ?z_abs ?z_min ?z_max ?z_sorted ?z_int ?z_bool ?z_str ?z_list ?z_tuple ?z_range ?z_zip ?z_enumerate
    (case a1 => k_is); (case l1 => k_is); (case c1 => k_is); (case k1 => k_is)
    (case a2 => k_is); (case l2 => k_is); (case c2 => k_is); (case k2 => k_is)
    (case a3 => k_is); (case l3 => k_is); (case c3 => k_is); (case k3 => k_is)
    (case a4 => k_is); (case l4 => k_is); (case c4 => k_is); (case k4 => k_is)
    (case a5 => k_is); (case l5 => k_is); (case c5 => k_is); (case k5 => k_is)
    (case a6 => k_is); (case l6 => k_is); (case c6 => k_is); (case k6 => k_is)
    (case a7 => k_is); (case l7 => k_is); (case c7 => k_is); (case k7 => k_is)
    (case a8 => k_is); (case l8 => k_is); (case c8 => k_is); (case k8 => k_is)
    (case a9 => k_is); (case l9 => k_is); (case c9 => k_is); (case k9 => k_is)
    (case a10 => k_is); (case l10 => k_is); (case c10 => k_is); (case k10 => k_is)
    (case a11 => k_is); (case l11 => k_is); (case c11 => k_is); (case k11 => k_is)
    (case a12 => k_is); (case l12 => k_is); (case c12 => k_is); (case k12 => k_is)
    (case a13 => k_is); (case l13 => k_is); (case c13 => k_is); (case k13 => k_is)
    (case a14 => k_is); (case l14 => k_is); (case c14 => k_is); (case k14 => k_is)
    (case a15 => k_is); (case l15 => k_is); (case c15 => k_is); (case k15 => k_is)
    (case a16 => k_is); (case l16 => k_is); (case c16 => k_is); (case k16 => k_is)
    (case a17 => k_is); (case l17 => k_is); (case c17 => k_is); (case k17 => k_is)
    (case a18 => k_is); (case l18 => k_is); (case c18 => k_is); (case k18 => k_is)
    (case a19 => k_is); (case l19 => k_is); (case c19 => k_is); (case k19 => k_is)
    (case a20 => k_is); (case l20 => k_is); (case c20 => k_is); (case k20 => k_is)
    (case a21 => k_is); (case l21 => k_is); (case c21 => k_is); (case k21 => k_is)
    (case a22 => k_is); (case l22 => k_is); (case c22 => k_is); (case k22 => k_is)
    (case a23 => k_is); (case l23 => k_is); (case c23 => k_is); (case k23 => k_is)
    (case a24 => k_is); (case l24 => k_is); (case c24 => k_is); (case k24 => k_is)
    (case a25 => k_is); (case l25 => k_is); (case c25 => k_is); (case k25 => k_is)
    (case a26 => k_is); (case l26 => k_is); (case c26 => k_is); (case k26 => k_is)
    (case a27 => k_is); (case l27 => k_is); (case c27 => k_is); (case k27 => k_is)
    (case a28 => k_is); (case l28 => k_is); (case c28 => k_is); (case k28 => k_is)
    (case a29 => k_is); (case l29 => k_is); (case c29 => k_is); (case k29 => k_is)
    (case a30 => k_is); (case l30 => k_is); (case c30 => k_is); (case k30 => k_is)
    (case a31 => k_is); (case l31 => k_is); (case c31 => k_is); (case k31 => k_is)
    (case a32 => k_is); (case l32 => k_is); (case c32 => k_is); (case k32 => k_is)
    (case a33 => k_is); (case l33 => k_is); (case c33 => k_is); (case k33 => k_is)
    (case a34 => k_is); (case l34 => k_is); (case c34 => k_is); (case k34 => k_is)
    (case a35 => k_is); (case l35 => k_is); (case c35 => k_is); (case k35 => k_is)
    (case z_len => k_is); (case z_isinstance => k_is); (case z_all => k_is); (case z_abs => k_is); (case z_min => k_is); (case z_max => k_is); (case z_sorted => k_is); (case z_int => k_is); (case z_bool => k_is); (case z_str => k_is); (case z_list => k_is); (case z_tuple => k_is); (case z_range => k_is); (case z_zip => k_is); (case z_enumerate => k_is)
#print axioms PySem.Challenge.cw_bothwheels_k22_whole_seen_twice_is_seen_holds
