import PyProof.Rows.All
import Wide.All
import OpenK.AllK
import Wide.FinOn
import HandS.ForMost
import HandS.Sort
import HandS.SortKw
import HandS.TupAny
import HandS.Gcd
import KE.KDictKeyed
import KE.KeyNested
import KE.SortData
import HandS.Text
import HandS.Flow
import PySem.Challenge.RW_whyblank_k25_whole_sums_over_books
import HandS.Style
import KE.GoesEnum
import PyProof.FitsInt
set_option Elab.async false
set_option linter.all false
set_option maxRecDepth 100000
set_option maxHeartbeats 4000000
set_option autoImplicit false
namespace Wb
/-! plain laws: quotients in lowest terms, gathering by keys. No program in sight. -/

/-- the quotient of two numbers in lowest terms -/
def fr (a t : Nat) : Nat × Nat := (a / Nat.gcd a t, t / Nat.gcd a t)

theorem fr_cross (a t : Nat) : (fr a t).1 * t = a * (fr a t).2 := by
  unfold fr
  obtain ⟨x, hx⟩ := Nat.gcd_dvd_left a t
  obtain ⟨y, hy⟩ := Nat.gcd_dvd_right a t
  by_cases g : Nat.gcd a t = 0
  · rw [g] at hx hy
    simp at hx hy
    subst hx hy
    rfl
  · have g0 : 0 < Nat.gcd a t := Nat.pos_of_ne_zero g
    have ex : a / Nat.gcd a t = x := by
      conv => lhs; lhs; rw [hx]
      exact Nat.mul_div_cancel_left x g0
    have ey : t / Nat.gcd a t = y := by
      conv => lhs; lhs; rw [hy]
      exact Nat.mul_div_cancel_left y g0
    show a / Nat.gcd a t * t = a * (t / Nat.gcd a t)
    rw [ex, ey]
    conv => lhs; rw [hy]
    conv => rhs; rw [hx]
    rw [← Nat.mul_assoc, Nat.mul_comm x]

theorem fr_pos2 {a t : Nat} (ht : 0 < t) : 0 < (fr a t).2 := by
  unfold fr
  exact Nat.div_pos (Nat.le_of_dvd ht (Nat.gcd_dvd_right a t)) (Nat.gcd_pos_of_pos_right a ht)
theorem fr_pos1 {a t : Nat} (ha : 0 < a) : 0 < (fr a t).1 := by
  unfold fr
  exact Nat.div_pos (Nat.le_of_dvd ha (Nat.gcd_dvd_left a t)) (Nat.gcd_pos_of_pos_left t ha)
theorem fr_le1 (a t : Nat) : (fr a t).1 ≤ a := Nat.div_le_self _ _
theorem fr_le2 (a t : Nat) : (fr a t).2 ≤ t := Nat.div_le_self _ _

/-- equal quotients are one quotient -/
theorem fr_eq {x y u v : Nat} (hy : 0 < y) (hv : 0 < v) (h : x * v = u * y) : fr x y = fr u v := by
  have g0 : 0 < Nat.gcd x y := Nat.gcd_pos_of_pos_right x hy
  have k0 : 0 < Nat.gcd u v := Nat.gcd_pos_of_pos_right u hv
  -- gcd x y * v = gcd u v * y
  have e : Nat.gcd x y * v = Nat.gcd u v * y := by
    rw [← Nat.gcd_mul_right, ← Nat.gcd_mul_right, h, Nat.mul_comm y v]
  have e1 : x * Nat.gcd u v = u * Nat.gcd x y := by
    apply Nat.eq_of_mul_eq_mul_right hv
    calc x * Nat.gcd u v * v = x * v * Nat.gcd u v := by rw [Nat.mul_assoc, Nat.mul_comm (Nat.gcd u v) v, ← Nat.mul_assoc]
      _ = u * y * Nat.gcd u v := by rw [h]
      _ = u * (Nat.gcd u v * y) := by rw [Nat.mul_assoc, Nat.mul_comm y]
      _ = u * (Nat.gcd x y * v) := by rw [e]
      _ = u * Nat.gcd x y * v := by rw [Nat.mul_assoc]
  have q1 : x / Nat.gcd x y = u / Nat.gcd u v := by
    obtain ⟨a, ha⟩ := Nat.gcd_dvd_left x y
    obtain ⟨b, hb⟩ := Nat.gcd_dvd_left u v
    apply (Nat.div_eq_iff_eq_mul_right g0 (Nat.gcd_dvd_left x y)).mpr
    have ub : u / Nat.gcd u v = b := by
      conv => lhs; lhs; rw [hb]
      exact Nat.mul_div_cancel_left b k0
    rw [ub]
    apply Nat.eq_of_mul_eq_mul_right k0
    rw [e1]
    conv => lhs; lhs; rw [hb]
    rw [Nat.mul_assoc, Nat.mul_comm (Nat.gcd u v) (b * Nat.gcd x y), Nat.mul_comm b (Nat.gcd x y)]
  have q2 : y / Nat.gcd x y = v / Nat.gcd u v := by
    obtain ⟨b, hb⟩ := Nat.gcd_dvd_right u v
    apply (Nat.div_eq_iff_eq_mul_right g0 (Nat.gcd_dvd_right x y)).mpr
    have vb : v / Nat.gcd u v = b := by
      conv => lhs; lhs; rw [hb]
      exact Nat.mul_div_cancel_left b k0
    rw [vb]
    apply Nat.eq_of_mul_eq_mul_right k0
    rw [Nat.mul_comm y, ← e]
    conv => lhs; rhs; rw [hb]
    rw [Nat.mul_assoc, Nat.mul_comm (Nat.gcd u v) b]
  unfold fr
  rw [q1, q2]

theorem fr_plus (a b : Nat) {t : Nat} (ht : 0 < t) : fr ((fr a t).1 * (fr b t).2 + (fr b t).1 * (fr a t).2) ((fr a t).2 * (fr b t).2) = fr (a + b) t := by
  apply fr_eq (Nat.mul_pos (fr_pos2 ht) (fr_pos2 ht)) ht
  have e1 := fr_cross a t
  have e2 := fr_cross b t
  generalize (fr a t).1 = p at *
  generalize (fr a t).2 = q at *
  generalize (fr b t).1 = r at *
  generalize (fr b t).2 = s at *
  calc (p * s + r * q) * t = p * t * s + r * t * q := by rw [Nat.add_mul, Nat.mul_assoc, Nat.mul_comm s t, ← Nat.mul_assoc, Nat.mul_assoc r q t, Nat.mul_comm q t, ← Nat.mul_assoc]
    _ = a * q * s + b * s * q := by rw [e1, e2]
    _ = (a + b) * (q * s) := by rw [Nat.add_mul, Nat.mul_assoc a, Nat.mul_assoc b, Nat.mul_comm s q]

theorem fr_over (a : Nat) {w t : Nat} (hw : 0 < w) (ht : 0 < t) : fr ((fr a t).1 * (fr w t).2) ((fr a t).2 * (fr w t).1) = fr a w := by
  apply fr_eq (Nat.mul_pos (fr_pos2 ht) (fr_pos1 hw)) hw
  have e1 := fr_cross a t
  have e2 := fr_cross w t
  generalize (fr a t).1 = p at *
  generalize (fr a t).2 = q at *
  generalize (fr w t).1 = r at *
  generalize (fr w t).2 = s at *
  apply Nat.eq_of_mul_eq_mul_right ht
  calc p * s * w * t = p * t * (w * s) := by rw [Nat.mul_comm w s, Nat.mul_assoc, Nat.mul_assoc, Nat.mul_comm w t, Nat.mul_assoc, ← Nat.mul_assoc s t w, Nat.mul_comm s t, Nat.mul_assoc t s w]
    _ = a * q * (r * t) := by rw [e1, e2]
    _ = a * (q * r) * t := by rw [← Nat.mul_assoc, Nat.mul_assoc a q r]

theorem fr_zero {t : Nat} (ht : 0 < t) : fr 0 t = (0, 1) := by
  unfold fr
  rw [Nat.gcd_zero_left, Nat.zero_div, Nat.div_self ht]
theorem fr_self {t : Nat} (ht : 0 < t) : fr t t = (1, 1) := by
  unfold fr
  rw [Nat.gcd_self, Nat.div_self ht]

/-! gathering -/
section
variable {κ : Type} [DecidableEq κ] {β γ : Type}
def look (kvs : List (κ × β)) (k : κ) : Option β := (kvs.find? fun p => decide (p.1 = k)).map (·.2)
def put (kvs : List (κ × β)) (k : κ) (v : β) : List (κ × β) :=
  if (kvs.any fun p => decide (p.1 = k)) = true then kvs.map (fun p => if p.1 = k then (p.1, v) else p) else kvs ++ [(k, v)]

theorem look_nil (k : κ) : look ([] : List (κ × β)) k = none := rfl
theorem look_pos {p : κ × β} {r : List (κ × β)} {k : κ} (e : p.1 = k) : look (p :: r) k = some p.2 := by simp [look, List.find?_cons, e]
theorem look_neg {p : κ × β} {r : List (κ × β)} {k : κ} (e : ¬ p.1 = k) : look (p :: r) k = look r k := by simp [look, List.find?_cons, e]
theorem look_map (f : κ → β → γ) (k : κ) : ∀ kvs : List (κ × β), look (kvs.map fun p => (p.1, f p.1 p.2)) k = (look kvs k).map (f k)
  | [] => rfl
  | p :: r => by
    by_cases e : p.1 = k
    · rw [List.map_cons, look_pos (p := (p.1, f p.1 p.2)) e, look_pos e, ← e]; rfl
    · rw [List.map_cons, look_neg (p := (p.1, f p.1 p.2)) e, look_neg e, look_map f k r]
theorem any_map (f : κ → β → γ) (k : κ) (kvs : List (κ × β)) : ((kvs.map fun p => (p.1, f p.1 p.2)).any fun p => decide (p.1 = k)) = kvs.any fun p => decide (p.1 = k) := by
  rw [List.any_map]; rfl
theorem put_map (f : κ → β → γ) (k : κ) (v : β) (kvs : List (κ × β)) : put (kvs.map fun p => (p.1, f p.1 p.2)) k (f k v) = (put kvs k v).map fun p => (p.1, f p.1 p.2) := by
  unfold put
  rw [any_map]
  split
  · rw [List.map_map, List.map_map]
    apply List.map_congr_left
    intro p _
    show (if p.1 = k then (p.1, f k v) else (p.1, f p.1 p.2)) = _
    by_cases e : p.1 = k
    · simp [Function.comp, e]
    · simp [Function.comp, e]
  · rw [List.map_append]; rfl
theorem put_keys (k : κ) (v : β) (kvs : List (κ × β)) : (put kvs k v).map (·.1) = if (kvs.any fun p => decide (p.1 = k)) = true then kvs.map (·.1) else kvs.map (·.1) ++ [k] := by
  unfold put
  split
  · rw [List.map_map]
    apply List.map_congr_left
    intro p _
    show (if p.1 = k then (p.1, v) else p).1 = p.1
    split <;> rfl
  · rw [List.map_append]; rfl
theorem put_nodup (k : κ) (v : β) {kvs : List (κ × β)} (h : (kvs.map (·.1)).Nodup) : ((put kvs k v).map (·.1)).Nodup := by
  rw [put_keys]
  split
  · exact h
  · rename_i hn
    rw [List.nodup_append]
    refine ⟨h, by simp, fun a ha b hb e => ?_⟩
    have e' : a = k := e.trans (by simpa using hb)
    subst e'
    obtain ⟨p, hp, ep⟩ := List.mem_map.mp ha
    exact hn (List.any_eq_true.mpr ⟨p, hp, decide_eq_true ep⟩)
theorem put_length_le (k : κ) (v : β) (kvs : List (κ × β)) : (put kvs k v).length ≤ kvs.length + 1 := by
  unfold put
  split
  · rw [List.length_map]; omega
  · rw [List.length_append]; exact Nat.le_refl _
theorem look_of_mem {kvs : List (κ × β)} (hn : (kvs.map (·.1)).Nodup) {p : κ × β} (hp : p ∈ kvs) : look kvs p.1 = some p.2 := by
  induction kvs with
  | nil => cases hp
  | cons q r ih =>
    rw [List.map_cons, List.nodup_cons] at hn
    rcases List.mem_cons.mp hp with e | hp
    · rw [← e]; exact look_pos rfl
    · have ne : ¬ q.1 = p.1 := fun e => hn.1 (by rw [e]; exact List.mem_map.mpr ⟨p, hp, rfl⟩)
      rw [look_neg ne]
      exact ih hn.2 hp
theorem look_mem {kvs : List (κ × β)} {k : κ} {v : β} (h : look kvs k = some v) : (k, v) ∈ kvs := by
  unfold look at h
  obtain ⟨p, hp, e⟩ := Option.map_eq_some_iff.mp h
  have h1 := List.mem_of_find?_eq_some hp
  have h2 := List.find?_some hp
  have e2 : p.1 = k := of_decide_eq_true h2
  rw [← e, ← e2]; exact h1
theorem look_isSome {kvs : List (κ × β)} {k : κ} (h : k ∈ kvs.map (·.1)) : ∃ v, look kvs k = some v := by
  obtain ⟨p, hp, e⟩ := List.mem_map.mp h
  cases hl : look kvs k with
  | some v => exact ⟨v, rfl⟩
  | none =>
    unfold look at hl
    rw [Option.map_eq_none_iff] at hl
    have := List.find?_eq_none.mp hl p hp
    exact absurd (decide_eq_true e) this
theorem look_none_any {kvs : List (κ × β)} {k : κ} : look kvs k = none ↔ (kvs.any fun p => decide (p.1 = k)) = false := by
  unfold look
  rw [Option.map_eq_none_iff, List.find?_eq_none, List.any_eq_false]
end

section
variable {κ : Type} [DecidableEq κ]
/-- one more of a key -/
def addTo (kvs : List (κ × Nat)) (k : κ) (n : Nat) : List (κ × Nat) := put kvs k ((look kvs k).getD 0 + n)
/-- the sums by keys, as the keys come -/
def gat (xs : List (κ × Nat)) : List (κ × Nat) := xs.foldl (fun acc x => addTo acc x.1 x.2) []
def tot (xs : List (κ × Nat)) : Nat := (xs.map (·.2)).sum

theorem gat_nodup (xs : List (κ × Nat)) : ((gat xs).map (·.1)).Nodup := by
  unfold gat
  have : ∀ (xs acc : List (κ × Nat)), (acc.map (·.1)).Nodup → ((xs.foldl (fun acc x => addTo acc x.1 x.2) acc).map (·.1)).Nodup := by
    intro xs
    induction xs with
    | nil => intro acc h; exact h
    | cons x r ih => intro acc h; exact ih _ (put_nodup _ _ h)
  exact this xs [] List.nodup_nil

theorem tot_put {kvs : List (κ × Nat)} (hn : (kvs.map (·.1)).Nodup) (k : κ) (n : Nat) : tot (addTo kvs k n) = tot kvs + n := by
  unfold addTo put
  cases ha : kvs.any fun p => decide (p.1 = k) with
  | false =>
    have hl : look kvs k = none := look_none_any.mpr ha
    rw [if_neg (by simp), hl]
    unfold tot
    rw [List.map_append, List.sum_append]
    simp
  | true =>
    rw [if_pos rfl]
    induction kvs with
    | nil => simp at ha
    | cons p r ih =>
      rw [List.map_cons, List.nodup_cons] at hn
      by_cases e : p.1 = k
      · rw [look_pos e]
        have hr : r.map (fun q => if q.1 = k then (q.1, (some p.2).getD 0 + n) else q) = r := by
          conv => rhs; rw [← List.map_id r]
          apply List.map_congr_left
          intro q hq
          have : ¬ q.1 = k := fun eq => hn.1 (by rw [e, ← eq]; exact List.mem_map.mpr ⟨q, hq, rfl⟩)
          rw [if_neg this]; rfl
        unfold tot
        rw [List.map_cons, hr, if_pos e]
        simp only [List.map_cons, List.sum_cons, Option.getD_some]
        omega
      · rw [look_neg e]
        have ha' : (r.any fun p => decide (p.1 = k)) = true := by simpa [List.any_cons, e] using ha
        have := ih hn.2 ha'
        unfold tot at this ⊢
        rw [List.map_cons, if_neg e]
        simp only [List.map_cons, List.sum_cons]
        omega
theorem gat_tot (xs : List (κ × Nat)) : tot (gat xs) = tot xs := by
  have : ∀ (xs acc : List (κ × Nat)), (acc.map (·.1)).Nodup → tot (xs.foldl (fun acc x => addTo acc x.1 x.2) acc) = tot acc + tot xs := by
    intro xs
    induction xs with
    | nil => intro acc h; simp [tot]
    | cons x r ih =>
      intro acc h
      show tot (r.foldl _ (addTo acc x.1 x.2)) = _
      rw [ih (addTo acc x.1 x.2) (put_nodup _ _ h), tot_put h]
      simp only [tot, List.map_cons, List.sum_cons]
      omega
  have h := this xs [] List.nodup_nil
  unfold gat
  rw [h]
  simp [tot]
/-- what holds of all keys that come -/
theorem gat_keys {P : κ → Prop} (xs : List (κ × Nat)) (h : ∀ x ∈ xs, P x.1) : ∀ p ∈ gat xs, P p.1 := by
  have : ∀ (xs acc : List (κ × Nat)), (∀ x ∈ xs, P x.1) → (∀ k ∈ acc.map (·.1), P k) → ∀ k ∈ (xs.foldl (fun acc x => addTo acc x.1 x.2) acc).map (·.1), P k := by
    intro xs
    induction xs with
    | nil => intro acc _ h; exact h
    | cons x r ih =>
      intro acc hx h
      refine ih _ (fun y hy => hx y (List.mem_cons_of_mem _ hy)) fun k hk => ?_
      unfold addTo at hk
      rw [put_keys] at hk
      split at hk
      · exact h k hk
      · rcases List.mem_append.mp hk with hk | hk
        · exact h k hk
        · rw [List.mem_singleton.mp hk]; exact hx x (List.mem_cons_self ..)
  intro p hp
  exact this xs [] h (by simp) p.1 (List.mem_map.mpr ⟨p, hp, rfl⟩)
theorem put_pos {kvs : List (κ × Nat)} {k : κ} {v : Nat} (hv : 0 < v) (h : ∀ p ∈ kvs, 0 < p.2) : ∀ p ∈ put kvs k v, 0 < p.2 := by
  intro p hp
  unfold put at hp
  split at hp
  · obtain ⟨q, hq, e⟩ := List.mem_map.mp hp
    rw [← e]
    split
    · exact hv
    · exact h q hq
  · rcases List.mem_append.mp hp with hp | hp
    · exact h p hp
    · rw [List.mem_singleton.mp hp]; exact hv
theorem gat_pos (xs : List (κ × Nat)) (h : ∀ x ∈ xs, 0 < x.2) : ∀ p ∈ gat xs, 0 < p.2 := by
  have : ∀ (xs acc : List (κ × Nat)), (∀ x ∈ xs, 0 < x.2) → (∀ p ∈ acc, 0 < p.2) → ∀ p ∈ xs.foldl (fun acc x => addTo acc x.1 x.2) acc, 0 < p.2 := by
    intro xs
    induction xs with
    | nil => intro acc _ h; exact h
    | cons x r ih =>
      intro acc hx h
      exact ih _ (fun y hy => hx y (List.mem_cons_of_mem _ hy)) (put_pos (by have := hx x (List.mem_cons_self ..); omega) h)
  exact this xs [] h (by simp)
theorem addTo_length (kvs : List (κ × Nat)) (k : κ) (n : Nat) : (addTo kvs k n).length ≤ kvs.length + 1 := put_length_le _ _ _
theorem gat_length (xs : List (κ × Nat)) : (gat xs).length ≤ xs.length := by
  have : ∀ (xs acc : List (κ × Nat)), (xs.foldl (fun acc x => addTo acc x.1 x.2) acc).length ≤ acc.length + xs.length := by
    intro xs
    induction xs with
    | nil => intro acc; exact Nat.le_refl _
    | cons x r ih =>
      intro acc
      have h1 := ih (addTo acc x.1 x.2)
      have h2 := addTo_length acc x.1 x.2
      show (r.foldl _ (addTo acc x.1 x.2)).length ≤ _
      rw [List.length_cons]
      omega
  have h := this xs []
  simpa [gat] using h
theorem gat_snoc (xs : List (κ × Nat)) (x : κ × Nat) : gat (xs ++ [x]) = addTo (gat xs) x.1 x.2 := by
  unfold gat
  rw [List.foldl_append]; rfl
/-- the value of a key, 0 of none -/
def val (kvs : List (κ × Nat)) (k : κ) : Nat := (look kvs k).getD 0
/-- read off along the keys in any order, nothing is lost -/
theorem tot_perm {kvs : List (κ × Nat)} (hn : (kvs.map (·.1)).Nodup) {ks : List κ} (hp : ks.Perm (kvs.map (·.1))) : (ks.map (val kvs)).sum = tot kvs := by
  have h1 : (ks.map (val kvs)).Perm ((kvs.map (·.1)).map (val kvs)) := hp.map _
  rw [h1.sum_nat, List.map_map]
  unfold tot
  congr 1
  apply List.map_congr_left
  intro p hp
  show val kvs p.1 = p.2
  unfold val
  rw [look_of_mem hn hp]; rfl
theorem sum_filter_pos (f : κ → Nat) : ∀ ks : List κ, ((ks.filter fun k => decide (0 < f k)).map f).sum = (ks.map f).sum
  | [] => rfl
  | k :: r => by
    by_cases h : 0 < f k
    · rw [List.filter_cons_of_pos (by simpa using h), List.map_cons, List.map_cons, List.sum_cons, List.sum_cons, sum_filter_pos f r]
    · rw [List.filter_cons_of_neg (by simpa using h), List.map_cons, List.sum_cons, sum_filter_pos f r]
      omega
theorem val_pos {kvs : List (κ × Nat)} (hn : (kvs.map (·.1)).Nodup) (hp : ∀ p ∈ kvs, 0 < p.2) {k : κ} (hk : k ∈ kvs.map (·.1)) : 0 < val kvs k := by
  obtain ⟨p, h1, e⟩ := List.mem_map.mp hk
  unfold val
  rw [← e, look_of_mem hn h1]
  exact hp p h1
/-- one key alone -/
theorem gat_one {k : κ} {xs : List (κ × Nat)} (hx : xs ≠ []) (h : ∀ x ∈ xs, x.1 = k) : gat xs = [(k, tot xs)] := by
  have : ∀ (xs : List (κ × Nat)) (n : Nat), (∀ x ∈ xs, x.1 = k) → xs.foldl (fun acc x => addTo acc x.1 x.2) [(k, n)] = [(k, n + tot xs)] := by
    intro xs
    induction xs with
    | nil => intro n _; simp [tot]
    | cons x r ih =>
      intro n hx
      have e : x.1 = k := hx x (List.mem_cons_self ..)
      have e2 : addTo [(k, n)] x.1 x.2 = [(k, n + x.2)] := by
        unfold addTo put
        rw [e]
        simp [look]
      show r.foldl _ (addTo [(k, n)] x.1 x.2) = _
      rw [e2, ih _ fun y hy => hx y (List.mem_cons_of_mem _ hy)]
      simp only [tot, List.map_cons, List.sum_cons, Nat.add_assoc]
  cases xs with
  | nil => exact absurd rfl hx
  | cons x r =>
    have e : x.1 = k := h x (List.mem_cons_self ..)
    have e2 : addTo ([] : List (κ × Nat)) x.1 x.2 = [(k, x.2)] := by
      unfold addTo put
      rw [e]
      simp [look]
    show r.foldl _ (addTo [] x.1 x.2) = _
    rw [e2, this _ _ fun y hy => h y (List.mem_cons_of_mem _ hy)]
    simp only [tot, List.map_cons, List.sum_cons]
end
end Wb

namespace Wb
open PySem L2 PyProof.Rows

/-! ### data of tuples, texts and whole numbers in the abstract heap -/
mutual
inductive Nk (K : PySem.W.Frag) (H : Hp) : V → NestedKey → Prop
  | num (i : Int) : Nk K H (.int i) (.num i)
  | text (x : Str) : Nk K H (.str x) (.text x)
  | tup {a : Addr} {xs : List V} {ds : List NestedKey} : SqT K H a xs → NkAll K H xs ds → Nk K H (.ref a) (.tup ds)
inductive NkAll (K : PySem.W.Frag) (H : Hp) : List V → List NestedKey → Prop
  | nil : NkAll K H [] []
  | cons {v : V} {vs : List V} {d : NestedKey} {ds : List NestedKey} : Nk K H v d → NkAll K H vs ds → NkAll K H (v :: vs) (d :: ds)
end

/-- the tuples stay -/
structure Tk (H H' : Hp) : Prop where
  tup : ∀ b xs, H b = some (.tup xs) → H' b = some (.tup xs)
  frz : ∀ b o u, H b = some (.frz o u) → H' b = some (.frz o u)
/-- all but the objects of S stays, and the tuples -/
structure Kp (S : List Addr) (H H' : Hp) : Prop where
  st : ∀ c o, c ∉ S → H c = some o → H' c = some o
  tk : Tk H H'

theorem Tk.refl (H : Hp) : Tk H H := ⟨fun _ _ h => h, fun _ _ _ h => h⟩
theorem Tk.trans {H H1 H2 : Hp} (a : Tk H H1) (b : Tk H1 H2) : Tk H H2 := ⟨fun c xs h => b.tup c xs (a.tup c xs h), fun c o u h => b.frz c o u (a.frz c o u h)⟩
theorem Kp.refl {S : List Addr} (H : Hp) : Kp S H H := ⟨fun _ _ _ h => h, Tk.refl H⟩
theorem Kp.trans {S : List Addr} {H H1 H2 : Hp} (a : Kp S H H1) (b : Kp S H1 H2) : Kp S H H2 := ⟨fun c o n h => b.st c o n (a.st c o n h), a.tk.trans b.tk⟩
theorem Kp.mono {S T : List Addr} {H H1 : Hp} (a : Kp S H H1) (h : ∀ c ∈ S, c ∈ T) : Kp T H H1 := ⟨fun c o n => a.st c o fun m => n (h c m), a.tk⟩
theorem Kp.nil {T : List Addr} {H H1 : Hp} (a : Kp [] H H1) : Kp T H H1 := a.mono (fun c h => absurd h (by simp))
theorem Kp.new {S : List Addr} {H : Hp} {p : Addr} {o : HO} (h : H p = none) : Kp S H (upd H p o) :=
  ⟨fun c u _ e => by rw [upd_ne (ne_of_none e h)]; exact e, fun b xs e => by rw [upd_ne (ne_of_none e h)]; exact e, fun b u x e => by rw [upd_ne (ne_of_none e h)]; exact e⟩
theorem Kp.upd {S : List Addr} {H : Hp} {p : Addr} {o u : HO} (hp : p ∈ S) (h : H p = some u) (h1 : ∀ xs, u ≠ .tup xs) (h2 : ∀ b x, u ≠ .frz b x) : Kp S H (upd H p o) :=
  ⟨fun c w n e => by rw [upd_ne (fun q => n (by rw [q]; exact hp))]; exact e, fun b xs e => by rw [upd_ne (ne_of e h fun q => h1 xs q.symm)]; exact e, fun b w x e => by rw [upd_ne (ne_of e h fun q => h2 w x q.symm)]; exact e⟩
theorem Kp.lst {S : List Addr} {H : Hp} {p : Addr} {o : HO} {xs : List V} (hp : p ∈ S) (h : H p = some (.lst xs)) : Kp S H (L2.upd H p o) := Kp.upd hp h (fun _ q => nomatch q) (fun _ _ q => nomatch q)
/-- an object that was none before: what is done to it does not count -/
theorem Kp.drop {S : List Addr} {H H' : Hp} {p : Addr} (h : H p = none) (k : Kp (p :: S) H H') : Kp S H H' :=
  ⟨fun c o n e => k.st c o (fun m => by
    rcases List.mem_cons.mp m with q | q
    · subst q; rw [h] at e; cases e
    · exact n q) e, k.tk⟩
theorem Kp.same {H H' : Hp} (k : Kp [] H H') : Same H H' := fun b o e => k.st b o (by simp) e
theorem Kp.free {S : List Addr} {H H' : Hp} (k : Kp S H H') {l : Addr} (hl : l ∉ S) (h : H' l = none) : H l = none := by
  cases q : H l with
  | none => rfl
  | some o => rw [k.st l o hl q] at h; cases h

section
variable {K : PySem.W.Frag} {H H' : Hp}
theorem SqT.tk {a : Addr} {xs : List V} (t : Tk H H') (h : SqT K H a xs) : SqT K H' a xs := by
  rcases h with (h | ⟨o, h⟩) | h
  · exact .inl (.inl (t.tup _ _ h))
  · exact .inl (.inr ⟨o, t.frz _ _ _ h⟩)
  · exact .inr h
mutual
theorem Nk.tk (t : Tk H H') : ∀ {v : V} {d : NestedKey}, Nk K H v d → Nk K H' v d
  | _, _, .num i => .num i
  | _, _, .text x => .text x
  | _, _, .tup h1 h2 => .tup (SqT.tk t h1) (NkAll.tk t h2)
theorem NkAll.tk (t : Tk H H') : ∀ {vs : List V} {ds : List NestedKey}, NkAll K H vs ds → NkAll K H' vs ds
  | _, _, .nil => .nil
  | _, _, .cons h1 h2 => .cons (Nk.tk t h1) (NkAll.tk t h2)
end
mutual
theorem Nk.dp : ∀ {v : V} {d : NestedKey}, Nk K H v d → Dp K H v d.data
  | _, _, .num i => by unfold NestedKey.data; exact .int i
  | _, _, .text x => by unfold NestedKey.data; exact .str x
  | _, _, .tup h1 h2 => by unfold NestedKey.data; exact .tup h1 (NkAll.dp h2)
theorem NkAll.dp : ∀ {vs : List V} {ds : List NestedKey}, NkAll K H vs ds → DpAll K H vs (NestedKey.datas ds)
  | _, _, .nil => by unfold NestedKey.datas; exact .nil
  | _, _, .cons h1 h2 => by unfold NestedKey.datas; exact .cons (Nk.dp h1) (NkAll.dp h2)
end
theorem NkAll.length : ∀ {vs : List V} {ds : List NestedKey}, NkAll K H vs ds → vs.length = ds.length
  | _, _, .nil => rfl
  | _, _, .cons _ h2 => by rw [List.length_cons, List.length_cons, NkAll.length h2]
theorem NkAll.snoc : ∀ {vs : List V} {ds : List NestedKey} {v : V} {d : NestedKey}, NkAll K H vs ds → Nk K H v d → NkAll K H (vs ++ [v]) (ds ++ [d])
  | _, _, _, _, .nil, h => .cons h .nil
  | _, _, _, _, .cons h1 h2, h => .cons h1 (NkAll.snoc h2 h)
theorem NkAll.append : ∀ {vs : List V} {ds : List NestedKey} {ws : List V} {es : List NestedKey}, NkAll K H vs ds → NkAll K H ws es → NkAll K H (vs ++ ws) (ds ++ es)
  | _, _, _, _, .nil, h => h
  | _, _, _, _, .cons h1 h2, h => .cons h1 (NkAll.append h2 h)
theorem NkAll.at : ∀ {vs : List V} {ds : List NestedKey} {i : Nat} {d : NestedKey}, NkAll K H vs ds → ds[i]? = some d → ∃ v, vs[i]? = some v ∧ Nk K H v d
  | _, _, 0, _, .cons h1 _, e => ⟨_, rfl, by cases e; exact h1⟩
  | _, _, i + 1, _, .cons _ h2, e => by
    obtain ⟨v, h, k⟩ := NkAll.at (i := i) h2 (by simpa using e)
    exact ⟨v, by simpa using h, k⟩
  | _, _, _, _, .nil, e => by simp at e
theorem NkAll.at' : ∀ {vs : List V} {ds : List NestedKey} {i : Nat} {v : V}, NkAll K H vs ds → vs[i]? = some v → ∃ d, ds[i]? = some d ∧ Nk K H v d
  | _, _, 0, _, .cons h1 _, e => ⟨_, rfl, by cases e; exact h1⟩
  | _, _, i + 1, _, .cons _ h2, e => by
    obtain ⟨d, h, k⟩ := NkAll.at' (i := i) h2 (by simpa using e)
    exact ⟨d, by simpa using h, k⟩
  | _, _, _, _, .nil, e => by simp at e
theorem Nk.inv_num {v : V} {i : Int} (h : Nk K H v (.num i)) : v = .int i := by cases h; rfl
theorem Nk.inv_text {v : V} {x : Str} (h : Nk K H v (.text x)) : v = .str x := by cases h; rfl
theorem Nk.inv_tup {v : V} {ds : List NestedKey} (h : Nk K H v (.tup ds)) : ∃ a xs, v = .ref a ∧ SqT K H a xs ∧ NkAll K H xs ds := by
  cases h with
  | tup h1 h2 => exact ⟨_, _, rfl, h1, h2⟩
theorem NkAll.inv1 {vs : List V} {d : NestedKey} (h : NkAll K H vs [d]) : ∃ v, vs = [v] ∧ Nk K H v d := by
  cases h with | cons h1 h2 => cases h2; exact ⟨_, rfl, h1⟩
theorem NkAll.inv2 {vs : List V} {d e : NestedKey} (h : NkAll K H vs [d, e]) : ∃ v w, vs = [v, w] ∧ Nk K H v d ∧ Nk K H w e := by
  cases h with | cons h1 h2 => obtain ⟨w, rfl, k⟩ := h2.inv1; exact ⟨_, w, rfl, h1, k⟩
theorem NkAll.inv3 {vs : List V} {d e f : NestedKey} (h : NkAll K H vs [d, e, f]) : ∃ v w x, vs = [v, w, x] ∧ Nk K H v d ∧ Nk K H w e ∧ Nk K H x f := by
  cases h with | cons h1 h2 => obtain ⟨w, x, rfl, k, k2⟩ := h2.inv2; exact ⟨_, w, x, rfl, h1, k, k2⟩
theorem Nk.inv_tup1 {v : V} {d : NestedKey} (h : Nk K H v (.tup [d])) : ∃ a x, v = .ref a ∧ SqT K H a [x] ∧ Nk K H x d := by
  obtain ⟨a, xs, rfl, h1, h2⟩ := h.inv_tup
  obtain ⟨x, rfl, k⟩ := h2.inv1
  exact ⟨a, x, rfl, h1, k⟩
theorem Nk.inv_tup2 {v : V} {d e : NestedKey} (h : Nk K H v (.tup [d, e])) : ∃ a x y, v = .ref a ∧ SqT K H a [x, y] ∧ Nk K H x d ∧ Nk K H y e := by
  obtain ⟨a, xs, rfl, h1, h2⟩ := h.inv_tup
  obtain ⟨x, y, rfl, k, k2⟩ := h2.inv2
  exact ⟨a, x, y, rfl, h1, k, k2⟩
theorem Nk.inv_tup3 {v : V} {d e f : NestedKey} (h : Nk K H v (.tup [d, e, f])) : ∃ a x y z, v = .ref a ∧ SqT K H a [x, y, z] ∧ Nk K H x d ∧ Nk K H y e ∧ Nk K H z f := by
  obtain ⟨a, xs, rfl, h1, h2⟩ := h.inv_tup
  obtain ⟨x, y, z, rfl, k, k2, k3⟩ := h2.inv3
  exact ⟨a, x, y, z, rfl, h1, k, k2, k3⟩
/-- a new tuple of data -/
theorem Nk.made {p : Addr} {xs : List V} {ds : List NestedKey} (h : NkAll K H xs ds) (hp : H p = none) : Nk K (L2.upd H p (.tup xs)) (.ref p) (.tup ds) :=
  .tup (SqT.of upd_same) (NkAll.tk (Kp.new (S := []) hp).tk h)
end

section
variable {X : Cx} {pins : List (Addr × Obj)} {σ : L2.St} {H : Hp} {s : Shared}
mutual
theorem Nk.nested (I : Inv X pins σ H s) : ∀ {d : NestedKey} {v : V} {u : Value}, Nk X.K H v d → RelV v u → NestedIs s.heap d u
  | _, _, _, .num i, r => by obtain ⟨t, rfl⟩ := r; exact .int i t
  | _, _, _, .text x, r => by obtain ⟨t, rfl⟩ := r; exact .text x t
  | _, _, _, .tup h1 h2, r => by
    cases r
    obtain ⟨its, rv, ⟨o, ho, hc, n, hd⟩, _⟩ := I.tuple h1
    exact .tup ho hc hd (NkAll.nested I h2 rv)
theorem NkAll.nested (I : Inv X pins σ H s) : ∀ {ds : List NestedKey} {vs : List V} {us : List Value}, NkAll X.K H vs ds → Vals vs us → NestedAll s.heap ds us
  | _, _, _, .nil, .nil => .nil
  | _, _, _, .cons h1 h2, .cons r1 r2 => .cons (Nk.nested I h1 r1) (NkAll.nested I h2 r2)
end
end

/-! ### dicts whose keys are such data, and whose values are -/
abbrev Ent := NestedKey × Addr × Value
/-- the dict's own object -/
def ndO (P : Program) (w : World) (a : Addr) (xs : List Ent) : HO := .ext fun h => (a == sysModules) = false ∧ ∃ o es ep, h.get? a = some o ∧ o.ExactDict ∧ o.data = .dict es ep ∧ es.toList = xs.map (entryOfKey (nestedKind P w)) ∧ (xs.map (·.1)).Nodup
/-- an entry's key and value -/
def EntR (K : PySem.W.Frag) (H : Hp) (p : NestedKey × NestedKey) (q : Ent) : Prop := p.1 = q.1 ∧ Nk K H (.ref q.2.1) p.1 ∧ p.1.depth ≤ 8 ∧ ∃ v, RelV v q.2.2 ∧ Nk K H v p.2
def ND (P : Program) (w : World) (K : PySem.W.Frag) (H : Hp) (a : Addr) (kvs : List (NestedKey × NestedKey)) : Prop :=
  ∃ xs : List Ent, H a = some (ndO P w a xs) ∧ xs.length ≤ sizeLine ∧ Paired (EntR K H) kvs xs
theorem EntR.tk {K : PySem.W.Frag} {H H' : Hp} (t : Tk H H') {p : NestedKey × NestedKey} {q : Ent} (h : EntR K H p q) : EntR K H' p q :=
  ⟨h.1, h.2.1.tk t, h.2.2.1, let ⟨v, r, k⟩ := h.2.2.2; ⟨v, r, k.tk t⟩⟩
theorem ND.kp {P : Program} {w : World} {K : PySem.W.Frag} {H H' : Hp} {S : List Addr} {a : Addr} {kvs : List (NestedKey × NestedKey)} (k : Kp S H H') (ha : a ∉ S) (d : ND P w K H a kvs) : ND P w K H' a kvs := by
  obtain ⟨xs, h1, h2, h3⟩ := d
  exact ⟨xs, k.st a _ ha h1, h2, Paired.mapP h3 fun p q r => r.tk k.tk⟩

theorem ent_look {K : PySem.W.Frag} {H : Hp} (k : NestedKey) : ∀ {kvs : List (NestedKey × NestedKey)} {xs : List Ent}, Paired (EntR K H) kvs xs →
    (look kvs k = none ∧ atKey xs k = none) ∨ ∃ d p v, look kvs k = some d ∧ atKey xs k = some p ∧ RelV v p.2 ∧ Nk K H v d
  | _, _, .nil => .inl ⟨rfl, rfl⟩
  | p :: kvs, q :: xs, .cons h t => by
    by_cases e : p.1 = k
    · refine .inr ?_
      obtain ⟨v, r, hv⟩ := h.2.2.2
      refine ⟨p.2, q.2, v, look_pos e, ?_, r, hv⟩
      have e' : q.1 = k := h.1.symm.trans e
      simp [atKey, List.find?_cons, e']
    · have e' : ¬ q.1 = k := fun z => e (h.1.trans z)
      have e2 : atKey (q :: xs) k = atKey xs k := by simp [atKey, List.find?_cons, e']
      rw [look_neg e, e2]
      exact ent_look k t
theorem ent_put {K : PySem.W.Frag} {H : Hp} {k : NestedKey} {d : NestedKey} {b : Addr} {v : V} {u : Value} (hb : Nk K H (.ref b) k) (hk : k.depth ≤ 8) (r : RelV v u) (hv : Nk K H v d) {kvs : List (NestedKey × NestedKey)} {xs : List Ent} (h : Paired (EntR K H) kvs xs) :
    Paired (EntR K H) (put kvs k d) (storedH xs k b u) := by
  have rep : ∀ {kvs : List (NestedKey × NestedKey)} {xs : List Ent}, Paired (EntR K H) kvs xs → Paired (EntR K H) (kvs.map fun p => if p.1 = k then (p.1, d) else p) (xs.map (putAt k u)) := by
    intro kvs xs h
    induction h with
    | nil => exact .nil
    | @cons p q l1 l2 h t ih =>
      rw [List.map_cons, List.map_cons]
      refine .cons ?_ ih
      unfold putAt
      by_cases e : p.1 = k
      · have e' : q.1 = k := h.1.symm.trans e
        rw [if_pos e, if_pos e']
        exact ⟨h.1, h.2.1, h.2.2.1, v, r, hv⟩
      · have e' : ¬ q.1 = k := fun z => e (h.1.trans z)
        rw [if_neg e, if_neg e']
        exact h
  unfold put storedH
  rcases ent_look k h with ⟨h1, h2⟩ | ⟨d', p, v', h1, h2, _⟩
  · rw [if_neg (by rw [look_none_any.mp h1]; exact Bool.false_ne_true), h2]
    rw [if_neg (by simp)]
    exact Paired.snoc h ⟨rfl, hb, hk, v, r, hv⟩
  · have ha : (kvs.any fun p => decide (p.1 = k)) = true := by
      cases q : kvs.any fun p => decide (p.1 = k) with
      | true => rfl
      | false => rw [look_none_any.mpr q] at h1; cases h1
    rw [if_pos ha, h2, if_pos (by rfl)]
    exact rep h

section
variable {X : Cx} {pins : List (Addr × Obj)} {σ : L2.St} {H : Hp} {s : Shared} {a : Addr} {kvs : List (NestedKey × NestedKey)}
theorem ent_is (I : Inv X pins σ H s) : ∀ {kvs : List (NestedKey × NestedKey)} {xs : List Ent}, Paired (EntR X.K H) kvs xs → ∀ x ∈ xs, (nestedKind X.prog X.w).is s.heap x.1 x.2.1
  | _, _, .nil, x, hx => by cases hx
  | _, _, .cons h t, x, hx => by
    rcases List.mem_cons.mp hx with e | hm
    · subst e
      refine ⟨?_, by rw [← h.1]; exact h.2.2.1⟩
      rw [← h.1]
      exact Nk.nested I h.2.1 rfl
    · exact ent_is I t x hm
theorem nd_of (I : Inv X pins σ H s) (d : ND X.prog X.w X.K H a kvs) : ∃ xs : List Ent, H a = some (ndO X.prog X.w a xs) ∧ xs.length ≤ sizeLine ∧ Paired (EntR X.K H) kvs xs ∧ (a == sysModules) = false ∧ s.heap.DictOfH (nestedKind X.prog X.w) a xs := by
  obtain ⟨xs, h1, h2, h3⟩ := d
  obtain ⟨⟨hs, o, es, ep, ho, hx, hd, he, hn⟩, _, _⟩ := (show ObjOk X.prog X.w H s.heap a (ndO X.prog X.w a xs) from I.hok a _ h1)
  exact ⟨xs, h1, h2, h3, hs, o, es, ep, ho, hx, hd, he, ent_is I h3, hn⟩
theorem ndO_ok {P : Program} {w : World} {H' : Hp} {h : Heap} {xs : List Ent} (hs : (a == sysModules) = false) (d : h.DictOfH (nestedKind P w) a xs) : ObjOk P w H' h a (ndO P w a xs) := by
  obtain ⟨o, es, ep, ho, hx, hd, he, _, hn⟩ := d
  refine ⟨⟨hs, o, es, ep, ho, hx, hd, he, hn⟩, ⟨o, ho⟩, fun h1 h2 q k => ?_⟩
  obtain ⟨hs, o, es, ep, ho, r⟩ := q
  exact ⟨hs, o, es, ep, k o ho, r⟩

variable {pos pos' apos cpos : Pos} {o i e f value : Expr} {td ty tx tv : TE}
/-- {} -/
def tNNew (P : Program) (w : World) (K : PySem.W.Frag) : TE := fun _ H Q => ∀ p H', H p = none → Kp [] H H' → ND P w K H' p [] → Q (.ref p) H'
theorem pe_nnew : PE X (.Dict [] [] pos) (tNNew X.prog X.w X.K) := ⟨fun pins s σ H Q I h => by
  have hf : H s.heap.objs.size = none := I.hok.fresh (Nat.le_refl _)
  refine wpAny_Dict_empty ⟨.ref s.heap.objs.size, _, I.laid (a := s.heap.objs.size) (o := ndO X.prog X.w s.heap.objs.size []) (t' := s.toks) (fun _ _ q => Heap.get?_push_of_some _ q) (Nat.le_refl _) ?_, rfl, h _ _ hf (Kp.new hf) ⟨[], upd_same, Nat.zero_le _, .nil⟩⟩
  exact ndO_ok (beq_eq_false_iff_ne.mpr (Ne.symm (Nat.ne_of_lt I.big))) ⟨_, #[], 0, Heap.get?_push_size _ rfl, ⟨rfl, rfl, rfl⟩, rfl, rfl, (fun _ h => nomatch h), List.nodup_nil⟩⟩
/-- d[y], there -/
def tNGet (P : Program) (w : World) (K : PySem.W.Frag) (td ty : TE) : TE := fun σ H Q => td σ H fun x H1 => ty σ H1 fun y H2 => ∃ a b kvs k d, x = .ref a ∧ y = .ref b ∧ ND P w K H2 a kvs ∧ Nk K H2 y k ∧ k.depth ≤ 8 ∧ look kvs k = some d ∧ ∀ r, Nk K H2 r d → Q r H2
theorem pe_nget (hu : X.A.units + 64 < cLine) (ho : PE X o td) (hi : PE X i ty) (hs : NoSl i) : PE X (.Subscript o i pos) (tNGet X.prog X.w X.K td ty) := by
  refine ⟨fun pins s σ H Q I h => ?_⟩
  refine subD_of PySem.F.slot_dict_getitem.lookup hs (thn (ho.run pins s σ H _ I h) fun u s1 ⟨x, H1, I1, rx, q1⟩ => thn (hi.run pins s1 σ H1 _ I1 q1) fun iv s2 ⟨y, H2, I2, ry, a, b, kvs, k, d, ex, ey, g, hk, h8, hl, q2⟩ => ?_)
  subst ex ey
  obtain rfl : u = Value.ref a := rx
  obtain rfl : iv = Value.ref b := ry
  obtain ⟨xs, h1, h2, h3, hsm, dd⟩ := nd_of I2 g
  refine ⟨dd.typeIs, ?_⟩
  rcases ent_look k h3 with ⟨n1, _⟩ | ⟨d', p, v, l1, l2, r, hv⟩
  · rw [hl] at n1; cases n1
  · rw [hl] at l1; cases l1
    exact wpAny_getItem_heap (by show X.A.in1.units + 8 < cLine; simp only [Around.in1_units]; omega) (⟨Nk.nested I2 hk rfl, h8⟩ : (nestedKind X.prog X.w).is s2.heap k b) dd l2 ⟨v, H2, I2.tok _, r, q2 v hv⟩
/-- d.get(y, x) -/
def tNGet2 (P : Program) (w : World) (K : PySem.W.Frag) (td ty tx : TE) : TE := fun σ H Q => td σ H fun x H1 => ∃ a kvs0, x = .ref a ∧ ND P w K H1 a kvs0 ∧ ty σ H1 fun y H2 => tx σ H2 fun z H3 => ∃ b kvs k dz, y = .ref b ∧ ND P w K H3 a kvs ∧ Nk K H3 y k ∧ k.depth ≤ 8 ∧ Nk K H3 z dz ∧ ∀ r, Nk K H3 r ((look kvs k).getD dz) → Q r H3
theorem pe_nget2 (hu : X.A.units + 64 < cLine) (ho : PE X o td) (he : PE X e ty) (hf : PE X f tx) (m : M2 X o "get" apos e f cpos) : PE X (.Call (.Attribute o "get" apos) [e, f] [] cpos) (tNGet2 X.prog X.w X.K td ty tx) := by
  refine ⟨fun pins s σ H Q I h => ?_⟩
  refine wpAny_Call_method m.base m.few m.line PySem.F.plainAttrs_dict PySem.F.slot_dict_get PySem.F.type_dict_get (thn (ho.run pins s σ H _ I h) fun u s1 ⟨x, H1, I1, rx, a, kvs0, ex, d, q1⟩ => ?_)
  subst ex
  obtain rfl : u = Value.ref a := rx
  obtain ⟨xs0, _, _, _, _, dd0⟩ := nd_of I1 d
  refine ⟨dd0.typeIs, fun b q => ?_, ?_⟩
  · cases q
    obtain ⟨ob, _, _, h1, h2, _⟩ := dd0
    exact ⟨ob, h1, h2.2.1⟩
  rw [m.trees]
  refine Calls.callWith_builtin rfl (Calls.evalArgs_plain (Calls.spliced_cons (thn (he.run pins s1 σ H1 _ I1 q1) fun iv s2 ⟨y, H2, I2, ry, q2⟩ =>
    Calls.spliced_cons (thn (hf.run pins s2 σ H2 _ I2 q2) fun fv s3 ⟨z, H3, I3, rz, b, kvs, k, dz, ey, g, hk, h8, hz, q3⟩ => Calls.spliced_nil ?_))))
  subst ey
  obtain rfl : iv = Value.ref b := ry
  obtain ⟨xs, h1, h2, h3, hsm, dd⟩ := nd_of I3 g
  refine call_meetsIn PySem.F.slot_dict_get dd.typeIs PySem.F.entry_dict_get (PySem.F.args_dict_get_3 _ _ _) (meetsH_dict_get_default (nestedKind X.prog X.w) a b hsm fv) ⟨by show X.A.in1.units + 8 < cLine; simp only [Around.in1_units]; omega, k, xs, ⟨Nk.nested I3 hk rfl, h8⟩, dd, ?_⟩
  rcases ent_look k h3 with ⟨n1, n2⟩ | ⟨d', p, v, l1, l2, r, hv⟩
  · rw [n2]
    rw [n1] at q3
    exact ⟨z, H3, I3.tok _, rz, q3 z hz⟩
  · rw [l2]
    rw [l1] at q3
    exact ⟨v, H3, I3.tok _, r, q3 v hv⟩
/-- d[y] = v -/
def sNPut (P : Program) (w : World) (K : PySem.W.Frag) (td ty tv : TE) : TS := fun D σ H => tv σ H fun v H1 => td σ H1 fun x H2 => ty σ H2 fun y H3 => ∃ a b kvs k d, x = .ref a ∧ y = .ref b ∧ ND P w K H3 a kvs ∧ Nk K H3 y k ∧ k.depth ≤ 8 ∧ Nk K H3 v d ∧ kvs.length < 100000 ∧
  ∀ H4, Kp [a] H3 H4 → ND P w K H4 a (put kvs k d) → D.nx σ H4
theorem paired_len {α β : Type} {F : α → β → Prop} {l1 : List α} {l2 : List β} (h : Paired F l1 l2) : l1.length = l2.length := Paired.length h
theorem ps_nput (hu : X.A.units + 64 < cLine) (ho : PE X o td) (hi : PE X i ty) (hv : PE X value tv) (hs : swapsWith value (some (.Subscript o i pos')) pos.line X.env = pure false) :
    PS X (.Assign [.Subscript o i pos'] value pos) (sNPut X.prog X.w X.K td ty tv) := by
  refine ⟨fun pins s σ H D I h => ?_⟩
  refine wpAny_Assign_Subscript (thn (hv.run pins s σ H _ I h) fun r s1 ⟨v, H1, I1, rv, q1⟩ => thn (ho.run pins s1 σ H1 _ I1 q1) fun u s2 ⟨x, H2, I2, rx, q2⟩ => thn (hi.run pins s2 σ H2 _ I2 q2) fun iv s3 ⟨y, H3, I3, ry, a, b, kvs, k, d, ex, ey, g, hk, h8, hd, hlen, q3⟩ => ?_) hs
  subst ex ey
  obtain rfl : u = Value.ref a := rx
  obtain rfl : iv = Value.ref b := ry
  obtain ⟨xs, h1, h2, h3, hsm, dd⟩ := nd_of I3 g
  have hl := paired_len h3
  refine wpAny_setItem_heap (hsz := h2) (by show X.A.in1.units + 8 < cLine; simp only [Around.in1_units]; omega) (⟨Nk.nested I3 hk rfl, h8⟩ : (nestedKind X.prog X.w).is s3.heap k b) dd fun h' dd' hsb => ?_
  have hq : ∃ q, h'.get? a = some q := let ⟨q, _, _, hq, _⟩ := dd'; ⟨q, hq⟩
  have kp : Kp [a] H3 (L2.upd H3 a (ndO X.prog X.w a (storedH xs k b r))) := Kp.upd (List.mem_singleton.mpr rfl) h1 (fun _ q => nomatch q) (fun _ _ q => nomatch q)
  have I4 : Inv X pins σ (L2.upd H3 a (ndO X.prog X.w a (storedH xs k b r))) { s3 with heap := h', toks := s3.toks + (nestedKind X.prog X.w).draws k } :=
    d_write I3 (by rw [h1]; exact True.intro) hsb hq (ndO_ok hsm dd')
  have e3 := ent_put hk h8 rv hd h3
  refine ⟨σ, _, I4, q3 _ kp ⟨_, upd_same, ?_, Paired.mapP e3 fun p q r => r.tk kp.tk⟩⟩
  rw [← paired_len e3]
  have := put_length_le k d kvs
  rw [sizeLine_eq]
  omega
end
end Wb

namespace Wb
open PySem L2 PyProof.Rows

/-! ### list(a text) -/
def chars (x : Str) : List V := x.cps.toList.map fun c => V.str ⟨#[c]⟩
section
variable {X : Cx}
theorem cr_listStr (hcalm : X.calm = true) : CallR X (.type "list") (fun vs H Q => ∃ x : Str, vs = [.str x] ∧ x.length ≤ 1000 ∧ ∀ l, H l = none → Q (.ref l) (L2.upd H l (.lst (chars x)))) := by
  intro pins s σ H vs us Q I r h
  obtain ⟨x, rfl, hx, q⟩ := h
  cases r with
  | cons r1 r2 =>
    cases r2
    obtain ⟨t, rfl⟩ := r1
    have hsz : x.cps.size ≤ sizeLine := by
      rw [sizeLine_eq]
      exact Nat.le_trans hx (by decide)
    refine PySem.call_list_str (I.ok.hd hcalm) x t (hn := hsz) fun h' tk acc' c' hk hS hacc => ?_
    have hf : H s.heap.objs.size = none := I.hok.fresh (Nat.le_refl _)
    refine ⟨.ref s.heap.objs.size, L2.upd H s.heap.objs.size (.lst (chars x)), I.laid (t' := tk) hk (Nat.le_refl _) ?_, rfl, q _ hf⟩
    have hv : ∀ (cs : List Nat) (vs : List Value), vs.length = cs.length → (∀ (j : Nat) (v : Value), vs[j]? = some v → ∃ c u, cs[j]? = some c ∧ v = Value.str ⟨#[c]⟩ u) → Vals (cs.map fun c => V.str ⟨#[c]⟩) vs := by
      intro cs
      induction cs with
      | nil =>
        intro vs hl _
        cases vs with
        | nil => exact .nil
        | cons _ _ => simp at hl
      | cons c cs ih =>
        intro vs hl hj
        cases vs with
        | nil => simp at hl
        | cons v vs =>
          obtain ⟨c', u, e1, e2⟩ := hj 0 v rfl
          have e1' : c = c' := Option.some.inj e1
          subst e1'
          refine .cons ⟨u, e2⟩ (ih vs (by simpa using hl) fun j v e => ?_)
          exact hj (j + 1) v (by simpa using e)
    have hlen : acc'.toList.length = x.cps.toList.length := by rw [Array.length_toList, Array.length_toList]; exact hacc.1
    refine ⟨?_, acc'.toList, c', hv _ _ hlen fun j v e => ?_, by rw [Array.toArray_toList]; exact hS⟩
    · unfold chars
      rw [List.length_map, Array.length_toList]
      exact hsz
    · obtain ⟨c, u, e1, e2⟩ := hacc.2 j v (by rw [← Array.getElem?_toList]; exact e)
      exact ⟨c, u, by rw [Array.getElem?_toList]; exact e1, e2⟩
end

/-! ### repr of data -/
mutual
theorem data_noDict : ∀ d : NestedKey, d.data.hasDict = false
  | .none => by unfold NestedKey.data; unfold PyData.hasDict; rfl
  | .num _ => by unfold NestedKey.data; unfold PyData.hasDict; rfl
  | .text _ => by unfold NestedKey.data; unfold PyData.hasDict; rfl
  | .tup ks => by unfold NestedKey.data; unfold PyData.hasDict; exact datas_noDict ks
theorem datas_noDict : ∀ ds : List NestedKey, PyData.hasDictAll (NestedKey.datas ds) = false
  | [] => by unfold NestedKey.datas; unfold PyData.hasDictAll; rfl
  | d :: ds => by unfold NestedKey.datas; unfold PyData.hasDictAll; rw [data_noDict d, datas_noDict ds]; rfl
end
mutual
theorem data_depth : ∀ d : NestedKey, d.data.depth = d.depth
  | .none => by unfold NestedKey.data; unfold PyData.depth NestedKey.depth; rfl
  | .num _ => by unfold NestedKey.data; unfold PyData.depth NestedKey.depth; rfl
  | .text _ => by unfold NestedKey.data; unfold PyData.depth NestedKey.depth; rfl
  | .tup ks => by unfold NestedKey.data; unfold PyData.depth NestedKey.depth; rw [datas_depth ks]
theorem datas_depth : ∀ ds : List NestedKey, PyData.depthAll (NestedKey.datas ds) = NestedKey.depthAll ds
  | [] => by unfold NestedKey.datas; unfold PyData.depthAll NestedKey.depthAll; rfl
  | d :: ds => by unfold NestedKey.datas; unfold PyData.depthAll NestedKey.depthAll; rw [data_depth d, datas_depth ds]
end
section
variable {X : Cx} {pins : List (Addr × Obj)} {σ : L2.St} {H : Hp} {s : Shared}
mutual
theorem Nk.reads (I : Inv X pins σ H s) : ∀ {d : NestedKey} {v : V} {u : Value}, Nk X.K H v d → RelV v u → Reads s.heap u d.data []
  | _, _, _, .num i, r => by obtain ⟨t, rfl⟩ := r; unfold NestedKey.data; exact .int i t
  | _, _, _, .text x, r => by obtain ⟨t, rfl⟩ := r; unfold NestedKey.data; exact .str x t
  | _, _, _, .tup h1 h2, r => by
    cases r
    obtain ⟨its, rv, ⟨o, ho, hc, n, hd⟩, _⟩ := I.tuple h1
    unfold NestedKey.data
    exact .tuple ho hc hd (NkAll.reads I h2 rv)
theorem NkAll.reads (I : Inv X pins σ H s) : ∀ {ds : List NestedKey} {vs : List V} {us : List Value}, NkAll X.K H vs ds → Vals vs us → ReadsAll s.heap us (NestedKey.datas ds) []
  | _, _, _, .nil, .nil => by unfold NestedKey.datas; exact .nil
  | _, _, _, .cons h1 h2, .cons r1 r2 => by
    unfold NestedKey.datas
    have h := ReadsAll.cons (Nk.reads I h1 r1) (NkAll.reads I h2 r2)
    exact h
end
end
def rRepr (K : PySem.W.Frag) : List V → Hp → VK → Prop := fun vs H Q => ∃ (a : Addr) (d : NestedKey), vs = [.ref a] ∧ Nk K H (.ref a) d ∧ d.data.showable = true ∧ d.data.shown.length ≤ sizeLine ∧ d.depth ≤ 8 ∧ Q (.str d.data.shown) H
theorem cr_repr {X : Cx} (hu : X.A.units + 64 < cLine) (hg : X.A.guards = some []) : CallR X (.builtin "repr") (rRepr X.K) := by
  intro pins s σ H vs us Q I r h
  obtain ⟨a, d, rfl, hd, hs, hz, h8, q⟩ := h
  cases r with
  | cons r1 r2 =>
    cases r2
    cases r1
    refine repr_of_reads' (h₀ := s.heap) (d := d.data) (as := []) (Nk.reads I hd rfl) hs (noDict_hsm' (data_noDict d)) hg (by rw [data_depth]; omega) (fun _ _ e => e) (fun h' u tk hk => ?_) hz
    exact ⟨.str d.data.shown, H, I.kept hk, ⟨u, rfl⟩, q⟩
where
  noDict_hsm' {d : PyData} {as : List Addr} (h : d.hasDict = false) : d.hasDict = true → sysModules ∉ as := fun h' => by rw [h] at h'; cases h'
end Wb

namespace Wb
open PySem L2 PyProof.Rows
open PySem.W (alike alikeAll AllAlike EachIs dataLe dataLt)

/-! ### rows in some order -/
theorem paired_perm {α β : Type} {F : α → β → Prop} {m n : List β} (h : m.Perm n) : ∀ {l : List α}, Paired F l n → ∃ l', l'.Perm l ∧ Paired F l' m := by
  induction h with
  | nil => intro l p; exact ⟨l, .refl _, p⟩
  | @cons x l1 l2 _ ih =>
    intro l p
    cases p with
    | @cons a _ l0 _ r t =>
      obtain ⟨l', e, q⟩ := ih t
      exact ⟨a :: l', e.cons a, .cons r q⟩
  | @swap x y l1 =>
    intro l p
    cases p with
    | @cons a _ _ _ r t =>
      cases t with
      | @cons b _ l0 _ r2 t2 => exact ⟨b :: a :: l0, List.Perm.swap a b l0, .cons r2 (.cons r t2)⟩
  | trans _ _ ih1 ih2 =>
    intro l p
    obtain ⟨l1, e1, q1⟩ := ih2 p
    obtain ⟨l2, e2, q2⟩ := ih1 q1
    exact ⟨l2, e2.trans e1, q2⟩

/-! ### two tuples of alike data are compared, and nothing changes -/
section
variable {prog : Program} {w : World} {A : Around} {s : Shared}
theorem oneLt_tup {xs ys : List PyData} {a b : Value} {as bs : List Addr} (ra : Reads s.heap a (.tuple xs) as) (rb : Reads s.heap b (.tuple ys) bs) (hal : alikeAll xs ys = true)
    (hu : A.units + min (PyData.depth (.tuple xs)) (PyData.depth (.tuple ys)) < cLine) : ∃ c : Bool, wpAny (model prog w) A (oneLt' true a b) (fun r s' => s' = s ∧ r = c) (fun _ _ => False) s := by
  cases ra with
  | @tuple l o vs n _ as₁ h1 h2 h3 h4 =>
    cases rb with
    | @tuple l' o' vs' n' _ bs₁ k1 k2 k3 k4 =>
      simp only [PyData.depth] at hu
      refine ⟨SeqAt.firstLt (SeqAt.pairEq xs ys) (fun j => dataLt (xs.getD j .none) (ys.getD j .none)) (decide (vs.size < vs'.size)) (List.range (min vs.size vs'.size)), ?_⟩
      rw [oneLt'_eq]
      simp only [if_true]
      refine wpAny_bind (wpAny_cRoomFor (SeqAt.room_here hu) ?_)
      refine wpAny_bind (wpAny_callSpecialIfBound?_slot (T := "tuple") ⟨_, h1, h2⟩ PySem.F.slot_tuple_lt ?_)
      obtain ⟨cls, dd, data, sl⟩ := o
      obtain ⟨cls', dd', data', sl'⟩ := o'
      simp only at h2 h3 k2 k3
      subst h2 h3 k2 k3
      refine PySem.call_meets PySem.F.slot_tuple_lt ⟨_, h1, rfl⟩ PySem.F.entry_tuple_lt (PySem.F.args_tuple_lt_2 _ _) (SeqAt.tuple_ltAt l l' vs vs' n n' dd dd' sl sl' (SeqAt.pairEq xs ys) (fun j => dataLt (xs.getD j .none) (ys.getD j .none))) ⟨h1, k1, fun j j1 j2 => ?_, fun j j1 j2 hj => ?_, ?_⟩
      · have := PySem.W.eqAt_alikeAll xs ys A.in1 s vs.toList vs'.toList _ _ h4 k4 hal (SeqAt.room_in hu) j (by simpa using j1) (by simpa using j2)
        simpa using this
      · have := PySem.W.rcLt_alikeAll xs ys A.in1 s vs.toList vs'.toList _ _ h4 k4 hal (SeqAt.room_in hu) j (by simpa using j1) (by simpa using j2) hj
        simpa using this
      · exact wpAny_truthy_bool ⟨rfl, rfl⟩
end

/-! ### tuples, the first of which is empty: their kind -/
def TupV (h : Heap) (v : Value) (xs : Array Value) : Prop := ∃ a o n, v = .ref a ∧ h.get? a = some o ∧ o.cls = .type "tuple" ∧ o.data = .seq xs n
section
variable {M : Model} {A : Around} {E : Value → Shared → Prop} {s : Shared}
theorem tups_firsts : ∀ {vs : List Value} {its : List (Array Value)} {Q : List (Option Value) → Shared → Prop}, Paired (TupV s.heap) vs its → Q (its.map fun xs => xs[0]?) s → wpAny M A (vs.mapM firstOfTuple') Q E s
  | _, _, _, .nil, h => by rw [List.mapM_nil]; exact wpAny_pure h
  | _, _, Q, .cons (a := v) (b := xs) (l₁ := vs) (l₂ := its) ⟨a, o, n, ev, ho, hc, hd⟩ t, h => by
    subst ev
    rw [List.mapM_cons]
    refine wpAny_bind ?_
    rw [PySem.W.kas_first_eq]
    refine wpAny_bind (PySem.W.Looks.here (show PySem.W.Looks M s.heap (typeOf (.ref a)) o.cls from (PySem.W.Looks.ld ho).andThen .now) ?_)
    rw [hc, if_neg (by first | decide | simp)]
    refine wpAny_bind (listItems_at ho hd (wpAny_pure ?_))
    exact wpAny_bind (tups_firsts (Q := fun bs s' => wpAny M A (pure (xs[0]? :: bs)) Q E s') t (wpAny_pure h))
theorem tups_kind {vs : List Value} {its : List (Array Value)} {Q : SortKind → Shared → Prop} (t : Paired (TupV s.heap) vs (#[] :: its)) (h : Q oneType' s) : wpAny M A (keyKind' vs.toArray) Q E s := by
  have hT : ∀ v ∈ vs, PySem.W.Looks M s.heap (typeOf v) (.type "tuple") := by
    generalize hz : (#[] :: its : List (Array Value)) = zs at t
    clear hz h
    induction t with
    | nil => intro v hv; cases hv
    | cons r _ ih =>
      intro v hv
      rcases List.mem_cons.mp hv with e | hv
      · obtain ⟨a, o, n, ev, ho, hc, hd⟩ := r
        subst e ev
        rw [← hc]
        exact (PySem.W.Looks.ld ho).andThen .now
      · exact ih v hv
  cases t with
  | @cons v _ rest _ r t =>
    rw [PyProof.Rows.kat_kind_eq, List.mapM_toArray, map_eq_pure_bind]
    refine wpAny_bind (wpAny_bind (tups_firsts (.cons r t) (wpAny_pure ?_)))
    have h1 : ((((#[] :: its : List (Array Value)).map fun xs => xs[0]?).toArray).all fun x => x.isSome) = false := by
      rw [List.map_cons]
      simp
    rw [if_neg (by rw [h1]; exact Bool.false_ne_true), if_neg (by rw [List.map_cons]; simp)]
    rw [oneTypeOnly'_eq, List.mapM_toArray, map_eq_pure_bind]
    refine wpAny_bind (wpAny_bind (wpAny_bind (PySem.W.kas_mapM (r := Value.type "tuple") _ (fun v hv Q' hq => (hT v hv).here hq) (wpAny_pure ?_))))
    have hall : ((List.map (fun _ => Value.type "tuple") (v :: rest)).toArray.all fun x => x == Value.type "tuple") = true := by
      simp only [List.all_toArray, List.all_map, List.all_eq_true]
      intro _ _
      exact beq_self_eq_true _
    have h0 : (List.map (fun _ => Value.type "tuple") (v :: rest)).toArray[0]? = some (Value.type "tuple") := by simp
    rw [h0]
    simp only [hall, if_true]
    exact wpAny_pure (wpAny_pure h)
end
end Wb

namespace Wb
open PySem L2 PyProof.Rows
open PySem.W (alike alikeAll AllAlike EachIs dataLe dataLt)

/-- the keys in Python's order -/
noncomputable def srt (ks : List NestedKey) : List NestedKey := ks.mergeSort (dataLe false NestedKey.data)
theorem srt_perm (ks : List NestedKey) : (srt ks).Perm ks := List.mergeSort_perm ks _
theorem srt_short {ks : List NestedKey} (h : ks.length < 2) : srt ks = ks := by
  match ks, h with
  | [], _ => exact List.perm_nil.mp (srt_perm [])
  | [k], _ => exact List.perm_singleton.mp (srt_perm [k])

theorem datas_map : ∀ ds : List NestedKey, NestedKey.datas ds = ds.map NestedKey.data
  | [] => by unfold NestedKey.datas; rfl
  | d :: ds => by unfold NestedKey.datas; rw [datas_map ds]; rfl

def NeTup (ks : List NestedKey) : Prop := (∀ b ∈ ks, ∃ x r, b = .tup (x :: r)) ∨ ks.length < 2
/-! ### list.sort of such data -/
section
variable {prog : Program} {w : World} {A : Around} {E : Value → Shared → Prop} {s : Shared}
theorem sort_call {a : Addr} {vs : List Value} {bs : List NestedKey} {n : Nat} {R : Value → NestedKey → Prop} {Q : Value → Shared → Prop} (ho : s.heap.get? a = some (seqObj "list" vs.toArray n)) (e : EachIs R vs bs)
    (er : EachIs (fun v b => Reads s.heap v (NestedKey.data b) []) vs bs) (hal : AllAlike (bs.map NestedKey.data)) (hk : NeTup bs) (hL : bs.length ≤ 1000) (hu : A.units + 64 < cLine) (h8 : ∀ b ∈ bs, b.depth ≤ 8)
    (h : ∀ out : List Value, EachIs R out (srt bs) → Q .none { s with heap := sortedHeap s.heap a vs out.toArray }) : wpAny (model prog w) A (call (.builtin "list.sort") [.ref a]) Q E s := by
  have hl := e.length
  have hz : bs.length ≤ sizeLine := by rw [sizeLine_eq]; omega
  rcases hk with hk | h2
  · refine PySem.W.list_sort_data (enc := NestedKey.data) ho e (er.mono fun v b r => ⟨[], r, by simp⟩) hal (.inl fun d hd => ?_) hz (fun b hb => by rw [data_depth]; have := h8 b hb; omega) fun out _ eo => h out eo
    obtain ⟨b, hb, rfl⟩ := List.mem_map.mp hd
    obtain ⟨x, r, rfl⟩ := hk b hb
    refine ⟨x.data, NestedKey.datas r, ?_⟩
    simp only [NestedKey.data, NestedKey.datas]
  · refine wpAny_call_entry PyProof.Rows.slot_list_sort ⟨_, ho, rfl⟩ PyProof.Rows.entry_list_sort (Srt.list_sort_any ho (by rw [hl]; exact hz) (fun q => by omega) fun out hp => ⟨.none, rfl, ?_⟩) (PyProof.Rows.args_list_sort _)
    have hlo : out = vs := by
      match vs, hl, hp with
      | [], _, hp => exact List.perm_nil.mp hp
      | [v], _, hp => exact List.perm_singleton.mp hp
      | _ :: _ :: _, hl, _ => simp at hl; omega
    rw [hlo]
    exact h vs (by rw [srt_short h2]; exact e)
end

/-! ### sorted(d), sorted(d.keys()) -/
/-- the view d.keys() at p -/
def keysO (p d : Addr) : HO := .ext fun h => PySem.W.KdlKeysView h p d
def rSortedN (P : Program) (w : World) (K : PySem.W.Frag) : List V → Hp → VK → Prop := fun vs H Q => ∃ (p a : Addr) (kvs : List (NestedKey × NestedKey)), vs = [.ref p] ∧ (p = a ∨ H p = some (keysO p a)) ∧ ND P w K H a kvs ∧
  AllAlike ((kvs.map (·.1)).map NestedKey.data) ∧ NeTup (kvs.map (·.1)) ∧ kvs.length ≤ 1000 ∧
  ∀ l ys, H l = none → NkAll K H ys (srt (kvs.map (·.1))) → Q (.ref l) (L2.upd H l (.lst ys))
theorem each_pair {α β : Type} {R : α → β → Prop} : ∀ {as : List α} {bs : List β}, EachIs R as bs → Paired R as bs
  | _, _, .nil => .nil
  | _, _, .cons h t => .cons h (each_pair t)

section
variable {X : Cx}
theorem ent_each {K : PySem.W.Frag} {H : Hp} : ∀ {kvs : List (NestedKey × NestedKey)} {xs : List Ent}, Paired (EntR K H) kvs xs → EachIs (fun v k => ∃ b, v = Value.ref b ∧ Nk K H (.ref b) k) (xs.map fun x => Value.ref x.2.1) (kvs.map (·.1))
  | _, _, .nil => .nil
  | _, _, .cons h t => .cons ⟨_, rfl, h.2.1⟩ (ent_each t)
theorem ent_reads {pins : List (Addr × Obj)} {σ : L2.St} {H : Hp} {s : Shared} (I : Inv X pins σ H s) : ∀ {kvs : List (NestedKey × NestedKey)} {xs : List Ent}, Paired (EntR X.K H) kvs xs → EachIs (fun v k => Reads s.heap v (NestedKey.data k) []) (xs.map fun x => Value.ref x.2.1) (kvs.map (·.1))
  | _, _, .nil => .nil
  | _, _, .cons h t => .cons (Nk.reads I h.2.1 rfl) (ent_reads I t)
theorem each_nk {K : PySem.W.Frag} {H : Hp} : ∀ {vs : List Value} {ks : List NestedKey}, EachIs (fun v k => ∃ b, v = Value.ref b ∧ Nk K H (.ref b) k) vs ks → ∃ ys : List V, Vals ys vs ∧ NkAll K H ys ks
  | _, _, .nil => ⟨[], .nil, .nil⟩
  | _, _, .cons ⟨b, e, h⟩ t => by
    obtain ⟨ys, r, k⟩ := each_nk t
    exact ⟨.ref b :: ys, .cons e r, .cons h k⟩
theorem cr_sortedN (hcalm : X.calm = true) (hu : X.A.units + 128 < cLine) : CallR X (.builtin "sorted") (rSortedN X.prog X.w X.K) := by
  intro pins s σ H vs us Q I r h
  obtain ⟨p, a, kvs, rfl, hp, g, hal, hne, hlen, q⟩ := h
  cases r with
  | cons r1 r2 =>
    cases r2
    cases r1
    obtain ⟨xs, h1, h2, h3, hsm, o, es, ep, ho, hx, hd, he, _, hn⟩ := nd_of I g
    have hxl := paired_len h3
    have hes : es.size = xs.length := size_of_entries he
    have raw : s.heap.DictRaw a es ep := ⟨o, ho, hx, hd⟩
    have hn16 : es.size ≤ sizeLine := by rw [hes]; exact h2
    have hks : (kvs.map (·.1)).length = kvs.length := List.length_map _
    have hh := I.ok.hd hcalm
    have fin : ∀ (h' : Heap) (tk : Nat) (acc : Array Value) (Q' : Value → Shared → Prop) (E' : Value → Shared → Prop), (∀ b o, s.heap.get? b = some o → h'.get? b = some o) → ItemsOf (fun i v => ∃ hi : i < es.size, v = es[i].key) acc es.size →
        (∀ out ys : List _, Vals ys out → NkAll X.K H ys (srt (kvs.map (·.1))) → Q' .none { s with heap := sortedHeap (h'.push (seqObj "list" acc.toList.toArray 0)) h'.objs.size acc.toList out.toArray, toks := tk }) →
        wpAny (model X.prog X.w) X.A.in1 (call (.builtin "list.sort") [.ref h'.objs.size]) Q' E' { s with heap := h'.push (seqObj "list" acc.toList.toArray 0), toks := tk } := by
      intro h' tk acc Q' E' hk hacc hq
      have eacc : acc.toList = xs.map fun x => Value.ref x.2.1 := by
        apply List.ext_getElem?
        intro j
        rw [Array.getElem?_toList, List.getElem?_map]
        by_cases hj : j < es.size
        · have hj2 : j < acc.size := by rw [hacc.1]; exact hj
          obtain ⟨hi, e1⟩ := hacc.2 j acc[j] (by simp [hj2])
          have e2 := entry_at he j
          rw [Array.getElem?_eq_getElem hj] at e2
          rw [Array.getElem?_eq_getElem hj2, e1]
          cases hxj : xs[j]? with
          | none => rw [hxj] at e2; cases e2
          | some x =>
            rw [hxj] at e2
            have e3 : es[j] = entryOfKey (nestedKind X.prog X.w) x := Option.some.inj e2
            rw [e3]; rfl
        · rw [Array.getElem?_eq_none (by rw [hacc.1]; omega), List.getElem?_eq_none (by omega)]; rfl
      have e1 := ent_each h3
      rw [← eacc] at e1
      have hoL : (h'.push (seqObj "list" acc.toList.toArray 0)).get? h'.objs.size = some (seqObj "list" acc.toList.toArray 0) := Heap.get?_push_size _ rfl
      have keep : ∀ b o, s.heap.get? b = some o → (h'.push (seqObj "list" acc.toList.toArray 0)).get? b = some o := fun b o e => Heap.get?_push_of_some _ (hk b o e)
      have I2 : Inv X pins σ H { s with heap := h'.push (seqObj "list" acc.toList.toArray 0), toks := tk } := I.kept keep
      have e2 := ent_reads I2 h3
      rw [← eacc] at e2
      refine sort_call (s := { s with heap := h'.push (seqObj "list" acc.toList.toArray 0), toks := tk }) (bs := kvs.map (·.1)) hoL e1 e2 hal hne (by omega) (by simp only [Around.in1_units]; omega) (fun b hb => ?_) fun out eo => ?_
      · obtain ⟨p0, hp0, rfl⟩ := List.mem_map.mp hb
        clear hq eacc
        have : ∀ {kvs : List (NestedKey × NestedKey)} {xs : List Ent}, Paired (EntR X.K H) kvs xs → ∀ p ∈ kvs, p.1.depth ≤ 8 := by
          intro kvs xs h
          induction h with
          | nil => intro p hp; cases hp
          | cons r _ ih =>
            intro p hp
            rcases List.mem_cons.mp hp with e | hp
            · rw [e]; exact r.2.2.1
            · exact ih p hp
        exact this h3 p0 hp0
      · obtain ⟨ys, rv, nk⟩ := each_nk eo
        exact hq out ys rv nk
    have top : ∀ (h' : Heap) (tk : Nat) (acc : Array Value), (∀ b o, s.heap.get? b = some o → h'.get? b = some o) → ItemsOf (fun i v => ∃ hi : i < es.size, v = es[i].key) acc es.size → ∀ (out : List Value) (ys : List V), Vals ys out → NkAll X.K H ys (srt (kvs.map (·.1))) →
        EP X pins σ Q (.ref h'.objs.size) { s with heap := sortedHeap (h'.push (seqObj "list" acc.toList.toArray 0)) h'.objs.size acc.toList out.toArray, toks := tk } := by
      intro h' tk acc hk hacc out ys rv nk
      have I1 : Inv X pins σ H { s with heap := h', toks := tk } := I.kept hk
      obtain ⟨e', he'⟩ := PyProof.Rows.sortedHeap_at (vs := acc.toList) (out := out.toArray) (show (h'.push (seqObj "list" acc.toList.toArray 0)).get? h'.objs.size = some (seqObj "list" acc.toList.toArray 0) from Heap.get?_push_size _ rfl)
      refine ⟨.ref h'.objs.size, L2.upd H h'.objs.size (.lst ys), I1.laid (t' := tk) (fun b u e => ?_) (Nat.le_refl _) ⟨?_, out, e', rv, he'⟩, rfl, q _ ys (I1.hok.fresh (Nat.le_refl _)) nk⟩
      · have hb : b < h'.objs.size := Heap.lt_size e
        rw [PyProof.Rows.sortedHeap_old (Nat.ne_of_lt hb) (by rw [size_push']; exact Nat.lt_succ_of_lt hb)]
        exact Heap.get?_push_of_some _ e
      · rw [NkAll.length nk, (srt_perm _).length_eq, hks, sizeLine_eq]; omega
    refine Calls.call_function_entry PyProof.Rows.kind_sorted PyProof.Rows.plain_sorted PyProof.Rows.entry_sorted (PyProof.Rows.args_sorted1 _) ?_
    unfold Builtin.«sorted»
    refine wpAny_bind (m := checkCount "sorted" 1 1 _) (wpAny_pure ?_)
    have tail : ∀ (h' : Heap) (tk : Nat) (acc : Array Value), (∀ b o, s.heap.get? b = some o → h'.get? b = some o) → ItemsOf (fun i v => ∃ hi : i < es.size, v = es[i].key) acc es.size → acc.toList.length ≤ sizeLine := fun h' tk acc hk hacc => by
      rw [Array.length_toList, hacc.1]; exact hn16
    rcases hp with rfl | hp
    · refine wpAny_bind (PySem.W.kdu_collect (A := X.A.in1) (PySem.KdlSrc.rawDict (ep := ep) (es := es) hsm) hh raw hn16 fun h' tk acc hk hacc => ?_)
      refine wpAny_bind (wpAny_newList ?_ (tail h' tk acc hk hacc))
      refine wpAny_bind (wpAny_holding (fin h' tk acc _ _ hk hacc fun out ys rv nk => ?_))
      exact wpAny_pure ⟨_, rfl, top h' tk acc hk hacc out ys rv nk⟩
    · have view : PySem.W.KdlKeysView s.heap p a := (show ObjOk X.prog X.w H s.heap p (keysO p a) from I.hok p _ hp).1
      refine wpAny_bind (PySem.W.kdu_collect (A := X.A.in1) (PySem.KdlSrc.rawKeys (ep := ep) (es := es)) hh ⟨view, raw⟩ hn16 fun h' tk acc hk hacc => ?_)
      refine wpAny_bind (wpAny_newList ?_ (tail h' tk acc hk hacc))
      refine wpAny_bind (wpAny_holding (fin h' tk acc _ _ hk hacc fun out ys rv nk => ?_))
      exact wpAny_pure ⟨_, rfl, top h' tk acc hk hacc out ys rv nk⟩

variable {apos cpos : Pos} {o : Expr} {td : TE}
/-- d.keys() -/
def tNKeys (P : Program) (w : World) (K : PySem.W.Frag) (td : TE) : TE := fun σ H Q => td σ H fun x H1 => ∃ a kvs, x = .ref a ∧ ND P w K H1 a kvs ∧ ∀ p, H1 p = none → Q (.ref p) (L2.upd H1 p (keysO p a))
theorem pe_nkeys (ho : PE X o td) (hbase : attributeBase o "keys" X.env (eval o X.env) = eval o X.env := by rfl) (hline : (apos.endLine == cpos.line) = true := by rfl) : PE X (.Call (.Attribute o "keys" apos) [] [] cpos) (tNKeys X.prog X.w X.K td) := by
  refine ⟨fun pins s σ H Q I h => ?_⟩
  refine wpAny_Call_method0_late hbase hline (thn (ho.run pins s σ H _ I h) fun v s1 ⟨x, H1, I1, r1, a, kvs, ex, d, q1⟩ => ?_)
  subst ex
  obtain rfl : v = Value.ref a := r1
  obtain ⟨xs, _, _, _, hsm, dd⟩ := nd_of I1 d
  obtain ⟨ob, es, ep, h1, h2, h3, _⟩ := id dd
  refine ⟨"dict", "dict.keys", PySem.F.plainAttrs_dict, PySem.F.slot_dict_keys, PySem.F.type_dict_keys, dd.typeIs, fun b q => by cases q; exact ⟨ob, h1, h2.2.1⟩, Calls.callWith_builtin rfl (PySem.evalArgs_none ?_)⟩
  refine call_meetsIn PySem.F.slot_dict_keys dd.typeIs PySem.F.entry_dict_keys (PySem.F.args_dict_keys_1 _) (PySem.meets_dict_keys_raw a hsm) ⟨⟨es, ep, ob, h1, h2, h3⟩, ?_⟩
  have hf : H1 s1.heap.objs.size = none := I1.hok.fresh (Nat.le_refl _)
  exact ⟨.ref s1.heap.objs.size, L2.upd H1 s1.heap.objs.size (keysO s1.heap.objs.size a), I1.laid (t' := s1.toks) (fun b u e => Heap.get?_push_of_some _ e) (Nat.le_refl _)
    ⟨⟨_, Heap.get?_push_size _ rfl, rfl, rfl⟩, ⟨_, Heap.get?_push_size _ rfl⟩, fun h1 h2 x k => let ⟨o, ho, r⟩ := x; ⟨o, k o ho, r⟩⟩, rfl, q1 _ hf⟩
end
end Wb

namespace Wb
open PySem L2 PyProof.Rows
open PySem.W (alike alikeAll AllAlike EachIs dataLe dataLt)

/-! ### sorted(tuples, the first of which is empty) -/
def rSortedE (K : PySem.W.Frag) : List V → Hp → VK → Prop := fun vs H Q => ∃ (l : Addr) (xs : List V) (ds : List (List NestedKey)), vs = [.ref l] ∧ SqL K H l xs ∧ NkAll K H xs (([] :: ds).map .tup) ∧ AllAlike ((([] :: ds).map NestedKey.tup).map NestedKey.data) ∧ (∀ d ∈ ds, NestedKey.depthAll d ≤ 7) ∧ ds.length ≤ 1000 ∧
  ∀ p ys (es : List (List NestedKey)), H p = none → es.Perm ([] :: ds) → NkAll K H ys (es.map .tup) → Q (.ref p) (L2.upd H p (.lst ys))
theorem nkAll_pair {K : PySem.W.Frag} {H : Hp} {γ : Type} (f : γ → NestedKey) : ∀ {xs : List V} {us : List Value} {ds : List γ}, NkAll K H xs (ds.map f) → Vals xs us → Paired (fun d u => ∃ x, RelV x u ∧ Nk K H x (f d)) ds us
  | _, _, [], h, r => by
    have h' : NkAll K H _ [] := h
    cases h'
    cases r
    exact .nil
  | _, _, d :: ds, h, r => by
    have h' : NkAll K H _ (f d :: ds.map f) := h
    cases h' with
    | cons h1 h2 =>
      cases r with
      | cons r1 r2 => exact .cons ⟨_, r1, h1⟩ (nkAll_pair f h2 r2)
theorem pair_nkAll {K : PySem.W.Frag} {H : Hp} {γ : Type} (f : γ → NestedKey) : ∀ {us : List Value} {ds : List γ}, Paired (fun d u => ∃ x, RelV x u ∧ Nk K H x (f d)) ds us → ∃ xs, Vals xs us ∧ NkAll K H xs (ds.map f)
  | _, _, .nil => ⟨[], .nil, .nil⟩
  | _, _, .cons ⟨x, r, h⟩ t => by
    obtain ⟨xs, r2, h2⟩ := pair_nkAll f t
    exact ⟨x :: xs, .cons r r2, .cons h h2⟩
theorem paired_mem {α β : Type} {F : α → β → Prop} : ∀ {l1 : List α} {l2 : List β}, Paired F l1 l2 → ∀ b ∈ l2, ∃ a ∈ l1, F a b
  | _, _, .nil, b, hb => by cases hb
  | _, _, .cons r t, b, hb => by
    rcases List.mem_cons.mp hb with e | hb
    · subst e; exact ⟨_, List.mem_cons_self .., r⟩
    · obtain ⟨a, ha, h⟩ := paired_mem t b hb
      exact ⟨a, List.mem_cons_of_mem _ ha, h⟩
section
variable {X : Cx}
theorem tupV_of {pins : List (Addr × Obj)} {σ : L2.St} {H : Hp} {s : Shared} {h' : Heap} (I : Inv X pins σ H s) (k : ∀ b o, s.heap.get? b = some o → h'.get? b = some o) : ∀ {ds : List (List NestedKey)} {us : List Value}, Paired (fun d u => ∃ x, RelV x u ∧ Nk X.K H x (.tup d)) ds us →
    ∃ its : List (Array Value), Paired (TupV h') us its ∧ (∀ r, ds = [] :: r → ∃ its', its = #[] :: its')
  | _, _, .nil => ⟨[], .nil, fun r e => nomatch e⟩
  | _, _, .cons (a := d) ⟨x, r, h⟩ t => by
    obtain ⟨its, p, _⟩ := tupV_of I k t
    obtain ⟨a, xs, rfl, h1, h2⟩ := h.inv_tup
    cases r
    obtain ⟨us, rv, ⟨o, ho, hc, n, hd⟩, _⟩ := I.tuple h1
    refine ⟨us.toArray :: its, .cons ⟨a, o, n, rfl, k _ _ ho, hc, hd⟩ p, fun r e => ?_⟩
    cases e
    cases h2
    cases rv
    exact ⟨its, rfl⟩
theorem cr_sortedE (hu : X.A.units + 128 < cLine) : CallR X (.builtin "sorted") (rSortedE X.K) := by
  intro pins s σ H vs us Q I r h
  obtain ⟨l, xs, ds, rfl, hS, hk, hal, h7, hlen, q⟩ := h
  cases r with
  | cons r1 r2 =>
    cases r2
    cases r1
    obtain ⟨its, rv, hl, hz⟩ := I.list hS
    have pr := nkAll_pair .tup hk rv
    have hi : its.length ≤ sizeLine := by rw [← rv.length]; exact hz
    have h7' : ∀ d ∈ [] :: ds, NestedKey.depthAll d ≤ 7 := fun d hd => by
      rcases List.mem_cons.mp hd with e | hd
      · rw [e]; exact Nat.zero_le _
      · exact h7 d hd
    refine Srt.sorted_any hl.isList hi (fun h2 h₁ a ha keep h' keep' => ?_) fun out hp => ?_
    · have kk : ∀ b o, s.heap.get? b = some o → h'.get? b = some o := fun b o e => keep' b o (keep b o e).1 (keep b o e).2
      obtain ⟨tus, pt, hz⟩ := tupV_of I kk pr
      obtain ⟨tus', rfl⟩ := hz _ rfl
      refine ⟨oneType', fun Q' E' hq => tups_kind (s := { s with heap := h' }) pt hq, fun p q hm hm' => ?_⟩
      obtain ⟨d, hd, x, rx, nx⟩ := paired_mem pr _ hm
      obtain ⟨d', hd', x', rx', nx'⟩ := paired_mem pr _ hm'
      have ra := PyProof.Rows.Reads.keeps kk (Nk.reads I nx rx)
      have rb := PyProof.Rows.Reads.keeps kk (Nk.reads I nx' rx')
      have hh := hal _ (List.mem_map.mpr ⟨_, List.mem_map.mpr ⟨d, hd, rfl⟩, rfl⟩) _ (List.mem_map.mpr ⟨_, List.mem_map.mpr ⟨d', hd', rfl⟩, rfl⟩)
      simp only [NestedKey.data] at ra rb hh
      show ∃ b, wpAny _ _ (keyLt' oneType' p.1 q.1) _ _ { s with heap := h' }
      rw [keyLt'_oneType]
      refine oneLt_tup (s := { s with heap := h' }) ra rb (by simpa [alike] using hh) ?_
      have e1 := h7' d hd
      simp only [PyData.depth, datas_depth, Around.in1_units]
      omega
    · obtain ⟨es, pe, pq⟩ := paired_perm hp pr
      obtain ⟨ys, ry, ny⟩ := pair_nkAll NestedKey.tup pq
      obtain ⟨e', he'⟩ := PyProof.Rows.sortedAll_at s.heap its out.toArray
      have hf : H (s.heap.objs.size + 1) = none := I.hok.fresh (Nat.le_succ _)
      refine ⟨.ref _, L2.upd H (s.heap.objs.size + 1) (.lst ys), I.laid (t' := s.toks) (fun _ _ => PyProof.Rows.sortedAll_old) (Nat.le_succ _) ⟨?_, out, e', ry, he'⟩, rfl, q _ ys es hf pe ny⟩
      rw [NkAll.length ny, List.length_map, pe.length_eq, List.length_cons, sizeLine_eq]
      omega
end
end Wb

namespace Wb
open PySem L2
open PyProof.Rows (envOfC)

/-! ### the text by places -/
def top (i : Nat) : Stmt := PySem.Challenge.pw_whyblank_k25_whole_sums_over_books.main.body.getD i (.Pass ⟨0, 0, 0, 0⟩)
abbrev sFormInit : Stmt := inClass (top 6) 0
abbrev sPlaceOf : Stmt := top 7
abbrev sFraction : Stmt := top 10
abbrev sPlus : Stmt := top 11
abbrev sBookInit : Stmt := inClass (top 13) 0
abbrev sValueIn : Stmt := top 15
abbrev sMargin : Stmt := top 17
abbrev sDeal : Stmt := top 19
abbrev sAny : Stmt := top 20
abbrev sOf : Stmt := top 21
abbrev sNames : Stmt := top 22
abbrev sQuestions : Stmt := top 23
abbrev sCommon : Stmt := top 24
abbrev sLow : Stmt := top 25
abbrev sPlusL : Stmt := top 26
abbrev sOver : Stmt := top 27
abbrev sSum : Stmt := top 28
abbrev sRows : Stmt := top 29
abbrev sTruths : Stmt := top 30
abbrev sWithin : Stmt := top 31
abbrev sLots : Stmt := top 32
abbrev sGathered : Stmt := top 33
abbrev sTriples : Stmt := top 34
abbrev sNodes : Stmt := top 35
abbrev sShares : Stmt := top 36
abbrev sValue : Stmt := top 37
abbrev sValues : Stmt := top 38
abbrev sMarginL : Stmt := top 39
abbrev sDrawn : Stmt := top 40
abbrev sLaw : Stmt := top 41

/-- the built-ins that the text names -/
structure Txt (mg : Str → Option Value) : Prop where
  int : mg "int" = none
  abs : mg "abs" = none
  len : mg "len" = none
  list : mg "list" = none
  sorted : mg "sorted" = none
  range : mg "range" = none
  tuple : mg "tuple" = none
  sum : mg "sum" = none
  enumerate : mg "enumerate" = none
  repr : mg "repr" = none
  gcd : mg "gcd" = some (.builtin "math.gcd")

/-- a def of the text as it stands behind the top -/
def Df (K : PySem.W.Frag) (mg : Str → Option Value) (x : Str) (st : Stmt) (ps : List Str) : Prop := ∃ f fd, Fun K x x st f fd ∧ Binds K fd ps [] ∧ mg x = some (.ref f)
/-- a def that keeps its promise -/
def Cal (P : Program) (w : World) (K : PySem.W.Frag) (mg : Str → Option Value) (base : Heap) (k : Nat) (x : Str) (ps : List Str) (sp : Sp) : Prop :=
  ∃ f fd, FnOk P w K mg base CX0 k f fd ps sp ∧ mg x = some (.ref f) ∧ PySem.W.keepIn K (.ref f) = true ∧ Binds K fd ps []
section
variable {P : Program} {w : World} {K : PySem.W.Frag} {mg : Str → Option Value} {base : Heap}
theorem cal_mk {x : Str} {st : Stmt} {N ps : List Str} {k : Nat} {sp : Sp} (d : Df K mg x st ps) (S : FnScope N ps (defScope st)) (len : ∀ vs H Q E, sp vs H Q E → vs.length = ps.length)
    (hbody : ∀ (f : Addr) (cdv : Value) (A : Around) (outer : List Env) (s : Shared) (H : Hp) (vs : List V) (Q : VK) (E : XK), Room k (A.deeper (envOfC x (defScope st) s.heap.objs.size f cdv)) → sp vs H Q E →
      ∃ t, PSs (cxOf CX0 P w K mg base N x (defScope st) f cdv A outer s H E).nox (defBody st) t ∧ t { nx := fun _ H' => Q .non H', rt := Q } (start N vs) H) : Cal P w K mg base (k + 1) x ps sp := by
  obtain ⟨f, fd, F, b, m⟩ := d
  exact ⟨f, fd, F.ok S len fun cdv A outer s H vs Q E hr h => hbody f cdv A outer s H vs Q E hr h, m, F.kp, b⟩
end
section
variable {X : Cx} {k : Nat} {x : Str} {ps : List Str} {sp : Sp} {p pos : Pos} {e : Expr} {es : List Expr} {t : TA} {te : TE}
theorem pe_cal (c : Cal X.prog X.w X.K X.mg X.base k x ps sp) (hr : Room k X.A) (ha : PA X (e :: es) t) (hg : Gl X x := by rfl) (hdb : (x == ("__debug__" : Str)) = false := by decide)
    (he : starEach (e :: es) X.env = (false, eval e X.env) :: starEach es X.env := by rfl) (hpl : (backTo pos (starEach es X.env)).any (·.1) = false := by rfl) : PE X (.Call (.Name x p) (e :: es) [] pos) (tCall sp [] E0 t) := by
  obtain ⟨f, fd, F, m, kp, b⟩ := c
  exact pe_call F hr hg m kp b .nil pass0 ha hdb he hpl
/-- int(e) of a whole number -/
theorem w_int (m : X.mg "int" = none) (h : PE X e te) (hg : Gl X "int" := by rfl) (he : starEach [e] X.env = (false, eval e X.env) :: starEach [] X.env := by rfl) : PE X (.Call (.Name "int" p) [e] [] pos) (tCB (fun xs H Q => (∃ i, xs = [.int i] ∧ Q (.int i) H) ∨ ∃ k, xs = [.bl k] ∧ Q (.int (if k then 1 else 0)) H) (tCons te tNil)) :=
  pe_callTy call_int1 hg m PyProof.Rows.boot_int (pa_cons h pa_nil he) (by decide) (by decide) he rfl
theorem w_abs (m : X.mg "abs" = none) (h : PE X e te) (hg : Gl X "abs" := by rfl) (he : starEach [e] X.env = (false, eval e X.env) :: starEach [] X.env := by rfl) : PE X (.Call (.Name "abs" p) [e] [] pos) (tCB (fun xs H Q => ∃ i, xs = [.int i] ∧ Q (.int (if i < 0 then -i else i)) H) (tCons te tNil)) :=
  pe_callB call_abs hg m PyProof.Rows.boot_abs (pa_cons h pa_nil he) (by decide) (by decide) he rfl
theorem w_len (m : X.mg "len" = none) (h : PE X e te) (hg : Gl X "len" := by rfl) (he : starEach [e] X.env = (false, eval e X.env) :: starEach [] X.env := by rfl) : PE X (.Call (.Name "len" p) [e] [] pos) (tCB (fun xs H Q => ∃ p ys, xs = [.ref p] ∧ (SqL X.K H p ys ∨ SqT X.K H p ys) ∧ Q (.int ys.length) H) (tCons te tNil)) :=
  pe_callB call_len_seq hg m PySem.boot_len (pa_cons h pa_nil he) (by decide) (by decide) he rfl
theorem w_lenS (m : X.mg "len" = none) (h : PE X e te) (hg : Gl X "len" := by rfl) (he : starEach [e] X.env = (false, eval e X.env) :: starEach [] X.env := by rfl) : PE X (.Call (.Name "len" p) [e] [] pos) (tCB (fun xs H Q => ∃ z, xs = [.str z] ∧ z.length ≤ sizeLine ∧ Q (.int z.length) H) (tCons te tNil)) :=
  pe_callB call_len_str hg m PySem.boot_len (pa_cons h pa_nil he) (by decide) (by decide) he rfl
theorem w_tuple (m : X.mg "tuple" = none) (h : PE X e te) (hg : Gl X "tuple" := by rfl) (he : starEach [e] X.env = (false, eval e X.env) :: starEach [] X.env := by rfl) : PE X (.Call (.Name "tuple" p) [e] [] pos) (tCB (fun xs H Q => ∃ p ys, xs = [.ref p] ∧ ((SqL X.K H p ys ∧ ∀ l, H l = none → Q (.ref l) (L2.upd H l (.tup ys))) ∨ (SqT X.K H p ys ∧ Q (.ref p) H))) (tCons te tNil)) :=
  pe_callTy call_tuple_of hg m PyProof.Rows.boot_tuple (pa_cons h pa_nil he) (by decide) (by decide) he rfl
end

/-! ### the deal -/
/-- the deal at a: its digits at b, its mixed number -/
structure Dl (H : Hp) (a b : Addr) (ns : List Int) (m : Int) : Prop where
  ne : a ≠ b
  at_ : H a = some (.lst [.ref b, .int m])
  ds : H b = some (.lst (ns.map .int))
  pos : ∀ n ∈ ns, 0 ≤ n
  len : ns.length ≤ 63
  m0 : 0 ≤ m
  m1 : m < 2147483647
def Deal (H : Hp) (a b : Addr) : Prop := ∃ ns m, Dl H a b ns m
theorem Dl.kp {H H' : Hp} {a b : Addr} {ns : List Int} {m : Int} {S : List Addr} (d : Dl H a b ns m) (k : Kp S H H') (ha : a ∉ S) (hb : b ∉ S) : Dl H' a b ns m :=
  ⟨d.ne, k.st a _ ha d.at_, k.st b _ hb d.ds, d.pos, d.len, d.m0, d.m1⟩
theorem Deal.kp {H H' : Hp} {a b : Addr} {S : List Addr} (d : Deal H a b) (k : Kp S H H') (ha : a ∉ S) (hb : b ∉ S) : Deal H' a b := let ⟨ns, m, h⟩ := d; ⟨ns, m, h.kp k ha hb⟩
theorem Deal.same {H H' : Hp} {a b : Addr} (d : Deal H a b) (k : Kp [] H H') : Deal H' a b := d.kp k (by simp) (by simp)
def intD (n : Int) : PyData := .int n
theorem dp_ints {K : PySem.W.Frag} {H : Hp} : ∀ ns : List Int, DpAll K H (ns.map V.int) (ns.map PyData.int)
  | [] => .nil
  | n :: ns => .cons (.int n) (dp_ints ns)
theorem ints_lay : ∀ ns : List Int, PyData.canLayAll0 (ns.map PyData.int) = true
  | [] => by unfold PyData.canLayAll0; rfl
  | n :: ns => by
    rw [List.map_cons]
    unfold PyData.canLayAll0
    rw [ints_lay ns]
    unfold PyData.canLay0
    rfl
theorem ints_depth : ∀ ns : List Int, PyData.depthAll (ns.map PyData.int) = 0
  | [] => by unfold PyData.depthAll; rfl
  | n :: ns => by
    rw [List.map_cons]
    unfold PyData.depthAll
    rw [ints_depth ns]
    unfold PyData.depth
    rfl
theorem ints_shaped (ns : List Int) : SeqAt.shaped (.list (ns.map PyData.int)) = true := by
  unfold SeqAt.shaped PyData.canLay0 PyData.depth
  rw [ints_lay, ints_depth]
  decide
theorem nil_shaped : SeqAt.shaped (.list []) = true := ints_shaped []
theorem ints_nil (ns : List Int) : PyData.eqv (.list (ns.map PyData.int)) (.list []) = ns.isEmpty := by
  cases ns with
  | nil => unfold PyData.eqv; unfold PyData.eqvAll; rfl
  | cons n ns => unfold PyData.eqv; rw [List.map_cons]; unfold PyData.eqvAll; rfl

theorem Dl.set_m {H : Hp} {a b : Addr} {ns : List Int} {m m' : Int} (d : Dl H a b ns m) (h0 : 0 ≤ m') (h1 : m' < 2147483647) : Dl (L2.upd H a (.lst [.ref b, .int m'])) a b ns m' :=
  ⟨d.ne, upd_same, by rw [upd_ne d.ne.symm]; exact d.ds, d.pos, d.len, h0, h1⟩
theorem Dl.set_ns {H : Hp} {a b : Addr} {ns ns' : List Int} {m : Int} (d : Dl H a b ns m) (h : ∀ n ∈ ns', 0 ≤ n) (hl : ns'.length ≤ 63) : Dl (L2.upd H b (.lst (ns'.map .int))) a b ns' m :=
  ⟨d.ne, by rw [upd_ne d.ne]; exact d.at_, upd_same, h, hl, d.m0, d.m1⟩
theorem pop_at (pre : List Int) (x : Int) : ((pre ++ [x]).map V.int)[((pre ++ [x]).map V.int).length - 1]? = some (.int x) := by simp
theorem pop_drop (pre : List Int) (x : Int) : ((pre ++ [x]).map V.int).dropLast = pre.map V.int := by simp
theorem at_0 {u v : V} : atI [u, v] 0 = some u := at_of (j := 0) rfl rfl
theorem at_1 {u v : V} : atI [u, v] 1 = some v := at_of (j := 1) rfl rfl
theorem at_l {pre : List Int} {x : Int} : atI ((pre ++ [x]).map V.int) (-1) = some (.int x) := by
  rw [List.map_append]
  exact atI_last _ _
theorem iteBF {c : Bool} {A B : Prop} (e : c = false) (h : B) : if c = true then A else B := by subst e; exact iteF h
theorem iteBT {c : Bool} {A B : Prop} (e : c = true) (h : A) : if c = true then A else B := by subst e; exact iteT h
theorem new_ne {H : Hp} {a p : Addr} {o : HO} (h : H a = some o) (hp : H p = none) : a ≠ p := ne_of_none h hp

/-- any number below a bound may come; but the deal's own two lists all stays -/
def spAny : Sp := fun vs H Q _ => ∃ (a b : Addr) (m : Int), vs = [.ref a, .int m] ∧ Deal H a b ∧ 1 ≤ m ∧ m ≤ 1000 ∧ ∀ (r : Int) (H' : Hp), 0 ≤ r → r < m → Kp [a, b] H H' → Deal H' a b → Q (.int r) H'

section
variable {P : Program} {w : World} {K : PySem.W.Frag} {mg : Str → Option Value} {base : Heap}
theorem scAny : FnScope ["_law_deal_here", "_law_bound", "_law_rest"] ["_law_deal_here", "_law_bound"] (defScope sAny) := ⟨rfl, rfl, rfl, by decide +kernel, rfl, by decide +kernel, by decide +kernel⟩
theorem ok_any (D : Df K mg "_law_any" sAny ["_law_deal_here", "_law_bound"]) (T : Txt mg) : Cal P w K mg base 1 "_law_any" ["_law_deal_here", "_law_bound"] spAny := by
  refine cal_mk D scAny (fun vs H Q E h => ?_) (fun f cdv A outer s H vs Q E hr h => ?_)
  · obtain ⟨a, b, m, rfl, _⟩ := h
    rfl
  · obtain ⟨a, b, m, rfl, ⟨ns, mi, hD⟩, m1, m2, k⟩ := h
    refine ⟨_, pss_cons (ps_while PassesOwn.never (pw_and (pt_cmpR (op_neD hr.units) (pe_ix ix_list (pv 0) pe_int (fun _ _ => rfl)) (pe_lst pa_nil) (nomark _)) (pw_and1 (pt_cmpR op_eq (pe_ix ix_list (pe_ix ix_list (pv 0) pe_int (fun _ _ => rfl)) (pe_un un_neg pe_int) (fun _ _ => rfl)) pe_int (nomark _)))).pt
        (pss_one (ps_expr (pe_bm0 PySem.F.plainAttrs_list PySem.F.slot_list_pop PySem.F.type_list_pop mt_pop (pe_ix ix_list (pv 0) pe_int (fun _ _ => rfl))))))
      (pss_cons (ps_if (pt_cmpR (op_neD hr.units) (pe_ix ix_list (pv 0) pe_int (fun _ _ => rfl)) (pe_lst pa_nil) (nomark _))
        (pss_cons (ps_set (i := 2) scAny.nd rfl (Or.inl rfl) (w_int T.int (pe_bm0 PySem.F.plainAttrs_list PySem.F.slot_list_pop PySem.F.type_list_pop mt_pop (pe_ix ix_list (pv 0) pe_int (fun _ _ => rfl)))))
          (pss_cons (ps_expr (pe_bm PySem.F.plainAttrs_list PySem.F.slot_list_append PySem.F.type_list_append mt_append (pe_ix ix_list (pv 0) pe_int (fun _ _ => rfl)) (pa_cons (pe_op op_fdiv (pv 2) (pv 1)) pa_nil)))
            (pss_one (ps_ret (pe_op op_mod (pv 2) (pv 1)))))) pss_nil)
      (pss_cons (ps_asg (pe_op op_mod (w_int T.int (pe_op op_add (pe_op op_mul (pe_ix ix_list (pv 0) pe_int (fun _ _ => rfl)) pe_int) pe_int)) pe_int) (pg_sub (pv 0) pe_int set_list))
      (pss_one (ps_ret (pe_op op_mod (w_int T.int (pe_op op_fdiv (pe_ix ix_list (pv 0) pe_int (fun _ _ => rfl)) pe_int)) (pv 1)))))), ?_⟩
    refine ⟨fun n σ H1 => ∃ ns mi, σ = [some (.ref a), some (.int m), none] ∧ Kp [a, b] H H1 ∧ Dl H1 a b ns mi ∧ ns.length = n, ⟨_, ns, mi, rfl, Kp.refl H, hD, rfl⟩, ?_⟩
    rintro n σ H1 ⟨ns, mi, rfl, k1, d1, rfl⟩
    have m0 : 0 < m := by omega
    have mm : m < 1073741824 := by omega
    rcases List.eq_nil_or_concat ns with rfl | ⟨pre, x, rfl⟩
    · -- no digits
      refine ⟨_, rfl, a, _, 0, .ref b, rfl, rfl, SqL.of d1.at_, at_0, Nat.zero_le _, fun p hp => ?_⟩
      have k2 := k1.trans (Kp.new (S := [a, b]) hp (o := .lst []))
      have d2 := d1.kp (Kp.new (S := []) hp (o := .lst [])) (by simp) (by simp)
      refine ⟨.list (([] : List Int).map .int), .list [], .lst (SqL.of d2.ds) (dp_ints _), .lst (SqL.of upd_same) .nil, ints_shaped _, nil_shaped, _, rfl, iteBF (by rw [ints_nil]; rfl) (iteF ?_)⟩
      refine ⟨_, rfl, a, _, 0, .ref b, rfl, rfl, SqL.of d2.at_, at_0, Nat.zero_le _, fun p2 hp2 => ?_⟩
      have k3 := k2.trans (Kp.new (S := [a, b]) hp2 (o := .lst []))
      have d3 := d2.kp (Kp.new (S := []) hp2 (o := .lst [])) (by simp) (by simp)
      refine ⟨.list (([] : List Int).map .int), .list [], .lst (SqL.of d3.ds) (dp_ints _), .lst (SqL.of upd_same) .nil, ints_shaped _, nil_shaped, _, rfl, iteBF (by rw [ints_nil]; rfl) ?_⟩
      have q1 := d3.m0
      have q2 := d3.m1
      refine ⟨_, rfl, a, _, 1, .int mi, rfl, rfl, SqL.of d3.at_, at_1, _, _, rfl, rfl, .inl ⟨by omega, by omega⟩, _, _, rfl, rfl, .inl ⟨_, rfl, _, _, rfl, rfl, (by show (0 : Int) < 2147483647; decide), _, rfl, a, _, 1, 1, rfl, rfl, d3.at_, rfl, ?_⟩⟩
      have e0 : 0 ≤ (mi * 48271 + 79) % 2147483647 := Int.emod_nonneg _ (by decide)
      have e1 : (mi * 48271 + 79) % 2147483647 < 2147483647 := Int.emod_lt_of_pos _ (by decide)
      have k4 := k3.trans (Kp.lst (S := [a, b]) (o := .lst [.ref b, .int ((mi * 48271 + 79) % 2147483647)]) (by simp) d3.at_)
      have d4 := d3.set_m e0 e1
      refine ⟨_, rfl, a, _, 1, .int ((mi * 48271 + 79) % 2147483647), rfl, rfl, SqL.of d4.at_, at_1, _, _, rfl, rfl, ⟨by decide, by decide⟩, .inl ⟨_, rfl, _, rfl, _, _, rfl, rfl, m0, ?_⟩⟩
      exact k _ _ (Int.emod_nonneg _ (by omega)) (Int.emod_lt_of_pos _ m0) k4 ⟨_, _, d4⟩
    · rw [List.concat_eq_append] at d1 ⊢
      have hx : 0 ≤ x := d1.pos x (by simp)
      have hpre : ∀ n ∈ pre, 0 ≤ n := fun n hn => d1.pos n (by simp [hn])
      have hlen : pre.length ≤ 62 := by have := d1.len; simp at this; omega
      have nn : ∀ z : Int, (pre ++ [z]).isEmpty = false := fun z => by simp
      refine ⟨_, rfl, a, _, 0, .ref b, rfl, rfl, SqL.of d1.at_, at_0, Nat.zero_le _, fun p hp => ?_⟩
      have k2 := k1.trans (Kp.new (S := [a, b]) hp (o := .lst []))
      have d2 := d1.kp (Kp.new (S := []) hp (o := .lst [])) (by simp) (by simp)
      refine ⟨.list ((pre ++ [x]).map .int), .list [], .lst (SqL.of d2.ds) (dp_ints _), .lst (SqL.of upd_same) .nil, ints_shaped _, nil_shaped, _, rfl, iteBT (by rw [ints_nil, nn]; rfl) ?_⟩
      refine ⟨_, rfl, a, _, 0, .ref b, rfl, rfl, SqL.of d2.at_, at_0, _, rfl, b, _, -1, .int x, rfl, rfl, SqL.of d2.ds, at_l, rfl, _, rfl, ?_⟩
      by_cases h0 : x = 0
      · -- a nought at the end goes
        refine iteBT (decide_eq_true (by rw [h0])) ⟨fun σ' H' => ∃ ns mi, σ' = [some (.ref a), some (.int m), none] ∧ Kp [a, b] H H' ∧ Dl H' a b ns mi ∧ ns.length = pre.length, fun σ' H' z => ⟨pre.length, by simp, z⟩, ?_⟩
        refine ⟨_, rfl, a, _, 0, .ref b, rfl, rfl, SqL.of d2.at_, at_0, .inl ⟨rfl, _, SqL.of d2.ds⟩, b, _, _, rfl, rfl, d2.ds, pop_at pre x, ?_⟩
        rw [pop_drop]
        exact ⟨pre, mi, rfl, k2.trans (Kp.lst (S := [a, b]) (by simp) d2.ds), d2.set_ns hpre (by omega), rfl⟩
      · refine iteBF (decide_eq_false (fun q => h0 (V.int.inj q))) ?_
        refine ⟨_, rfl, a, _, 0, .ref b, rfl, rfl, SqL.of d2.at_, at_0, Nat.zero_le _, fun p2 hp2 => ?_⟩
        have k3 := k2.trans (Kp.new (S := [a, b]) hp2 (o := .lst []))
        have d3 := d2.kp (Kp.new (S := []) hp2 (o := .lst [])) (by simp) (by simp)
        refine ⟨.list ((pre ++ [x]).map .int), .list [], .lst (SqL.of d3.ds) (dp_ints _), .lst (SqL.of upd_same) .nil, ints_shaped _, nil_shaped, _, rfl, iteBT (by rw [ints_nil, nn]; rfl) ?_⟩
        refine ⟨_, rfl, a, _, 0, .ref b, rfl, rfl, SqL.of d3.at_, at_0, .inl ⟨rfl, _, SqL.of d3.ds⟩, b, _, _, rfl, rfl, d3.ds, pop_at pre x, .inl ⟨_, rfl, ?_⟩⟩
        rw [pop_drop]
        have k4 := k3.trans (Kp.lst (S := [a, b]) (o := .lst (pre.map .int)) (by simp) d3.ds)
        have d4 := d3.set_ns hpre (by omega)
        refine ⟨_, rfl, a, _, 0, .ref b, rfl, rfl, SqL.of d4.at_, at_0, .inl ⟨rfl, _, SqL.of d4.ds⟩, _, rfl, _, rfl, _, _, rfl, rfl, ⟨m0, mm⟩, b, _, _, rfl, rfl, d4.ds, ?_, ?_⟩
        · rw [List.length_map, sizeLine_eq]; omega
        have hq : 0 ≤ x / m := Int.ediv_nonneg hx (by omega)
        have hap : pre.map V.int ++ [V.int (x / m)] = (pre ++ [x / m]).map V.int := by simp
        rw [hap]
        have k5 := k4.trans (Kp.lst (S := [a, b]) (o := .lst ((pre ++ [x / m]).map .int)) (by simp) d4.ds)
        have d5 := d4.set_ns (ns' := pre ++ [x / m]) (fun n hn => by
          rcases List.mem_append.mp hn with h | h
          · exact hpre n h
          · rw [List.mem_singleton.mp h]; exact hq) (by simp; omega)
        refine ⟨_, rfl, _, rfl, _, _, rfl, rfl, m0, ?_⟩
        exact k _ _ (Int.emod_nonneg _ (by omega)) (Int.emod_lt_of_pos _ m0) k5 ⟨_, _, d5⟩
end
end Wb

namespace Wb
open PySem L2
open PyProof.Rows (envOfC)

/-! ### comprehensions that build data -/
section
variable {K : PySem.W.Frag} {H H' H1 : Hp} {S : List Addr} {D : Addr}
theorem SqL.kp {a : Addr} {xs : List V} (h : SqL K H a xs) (k : Kp S H H') (ha : a ∉ S) : SqL K H' a xs := by
  rcases h with (h | ⟨o, h⟩) | h
  · exact .inl (.inl (k.st _ _ ha h))
  · exact .inl (.inr ⟨o, k.st _ _ ha h⟩)
  · exact .inr h
theorem SqL.kpD {a : Addr} {xs : List V} (h : SqL K H1 a xs) (hD : H1 D = none) (k : Kp (D :: S) H1 H') (ha : a ∉ S) : SqL K H' a xs := by
  have ne : ∀ o, H1 a = some o → a ∉ D :: S := fun o e q => by
    rcases List.mem_cons.mp q with z | z
    · rw [z, hD] at e; cases e
    · exact ha z
  rcases h with (h | ⟨o, h⟩) | h
  · exact .inl (.inl (k.st _ _ (ne _ h) h))
  · exact .inl (.inr ⟨o, k.st _ _ (ne _ h) h⟩)
  · exact .inr h
/-- what holds between two turns -/
def Lc (K : PySem.W.Frag) (D : Addr) (S : List Addr) (H1 : Hp) (J : Hp → Prop) (Pd : Nat → List NestedKey → Prop) (i : Nat) (H' : Hp) : Prop :=
  ∃ acc ds, Kp (D :: S) H1 H' ∧ J H' ∧ H' D = some (.lst acc) ∧ NkAll K H' acc ds ∧ Pd i ds ∧ ds.length ≤ i
/-- what a turn leaves: the element y is the data d -/
def LcEl (K : PySem.W.Frag) (S : List Addr) (J : Hp → Prop) (Pd : List NestedKey → Prop) (ds : List NestedKey) (H' : Hp) (y : V) (H4 : Hp) : Prop :=
  Kp S H' H4 ∧ J H4 ∧ ∃ d, Nk K H4 y d ∧ Pd (ds ++ [d])
theorem Lc.start {J : Hp → Prop} {Pd : Nat → List NestedKey → Prop} (hD : H1 D = none) (j : J H1) (hJ : ∀ H H', Kp [D] H H' → J H → J H') (p : Pd 0 []) : Lc K D S H1 J Pd 0 (L2.upd H1 D (.lst [])) :=
  ⟨[], [], Kp.new hD, hJ _ _ (Kp.new hD) j, upd_same, .nil, p, Nat.le_refl _⟩
theorem Lc.step {J : Hp → Prop} {Pd : Nat → List NestedKey → Prop} {i : Nat} {ds : List NestedKey} {acc : List V} {H4 : Hp} {y : V} (hS : D ∉ S) (hJ : ∀ H H', Kp [D] H H' → J H → J H') (hi : i < 100000)
    (k : Kp (D :: S) H1 H') (hD : H' D = some (.lst acc)) (hn : NkAll K H' acc ds) (hl : ds.length ≤ i) (e : LcEl K S J (Pd (i + 1)) ds H' y H4) :
    ∃ acc, H4 D = some (.lst acc) ∧ acc.length < sizeLine ∧ Lc K D S H1 J Pd (i + 1) (L2.upd H4 D (.lst (acc ++ [y]))) := by
  obtain ⟨k4, j4, d, nk, p⟩ := e
  have h4 : H4 D = some (.lst acc) := k4.st D _ hS hD
  refine ⟨acc, h4, ?_, acc ++ [y], ds ++ [d], ?_, hJ _ _ (Kp.lst (by simp) h4) j4, upd_same, ?_, p, ?_⟩
  · rw [hn.length, sizeLine_eq]; omega
  · exact (k.trans (k4.mono fun c h => List.mem_cons_of_mem _ h)).trans (Kp.lst (by simp) h4)
  · exact NkAll.tk (Kp.lst (S := [D]) (by simp) h4).tk (NkAll.snoc (NkAll.tk k4.tk hn) nk)
  · rw [List.length_append, List.length_singleton]; omega
theorem Lc.skip {J : Hp → Prop} {Pd : Nat → List NestedKey → Prop} {i : Nat} {ds : List NestedKey} {acc : List V} {H4 : Hp} (hS : D ∉ S)
    (k : Kp (D :: S) H1 H') (hD : H' D = some (.lst acc)) (hn : NkAll K H' acc ds) (hl : ds.length ≤ i) (k4 : Kp S H' H4) (j : J H4) (p : Pd (i + 1) ds) : Lc K D S H1 J Pd (i + 1) H4 :=
  ⟨acc, ds, k.trans (k4.mono fun c h => List.mem_cons_of_mem _ h), j, k4.st D _ hS hD, NkAll.tk k4.tk hn, p, by omega⟩
variable {g : TG} {tt : TT} {te : TE} {vs : List Nat} {σ : L2.St} {Qd : Hp → Prop}
/-- the goal of a turn: R is what is wanted of an element, N of the heap where none is kept -/
def LcTurn (K : PySem.W.Frag) (D : Addr) (S : List Addr) (H1 : Hp) (J : Hp → Prop) (Pd : Nat → List NestedKey → Prop) (g : TG) (tt : TT) (te : TE) (vs : List Nat) (σ : L2.St) (i : Nat) (x : V) : Prop :=
  ∀ (H' : Hp) (acc : List V) (ds : List NestedKey) (R : VK) (N : Hp → Prop), Kp (D :: S) H1 H' → J H' → H' D = some (.lst acc) → NkAll K H' acc ds → Pd i ds → ds.length ≤ i →
    (∀ y H4, LcEl K S J (Pd (i + 1)) ds H' y H4 → R y H4) → (∀ H3, Kp S H' H3 → J H3 → Pd (i + 1) ds → N H3) →
    g x (wipe σ vs) H' fun σ2 H2 => wipe σ2 vs = wipe σ vs ∧ tt σ2 H2 fun b H3 => if b = true then te σ2 H3 R else N H3
section
variable {a : Addr} {xs : List V} {J : Hp → Prop} {Pd : Nat → List NestedKey → Prop}
theorem lc_turn {i : Nat} {x : V} {H' : Hp} (hS : D ∉ S) (hJ : ∀ H H', Kp [D] H H' → J H → J H') (hi : i < 100000) (h : LcTurn K D S H1 J Pd g tt te vs σ i x) (p : Lc K D S H1 J Pd i H') :
    g x (wipe σ vs) H' fun σ2 H2 => wipe σ2 vs = wipe σ vs ∧ tt σ2 H2 fun b H3 => if b = true then te σ2 H3 fun y H4 => ∃ acc, H4 D = some (.lst acc) ∧ acc.length < sizeLine ∧ Lc K D S H1 J Pd (i + 1) (L2.upd H4 D (.lst (acc ++ [y]))) else Lc K D S H1 J Pd (i + 1) H3 := by
  obtain ⟨acc, ds, k, j, hD, hn, p, hl⟩ := p
  exact h H' acc ds _ _ k j hD hn p hl (fun y H4 e => Lc.step hS hJ hi k hD hn hl e) fun H3 k3 j3 p3 => Lc.skip hS k hD hn hl k3 j3 p3
/-- over a list -/
theorem lc_dataL (src : SqL K H1 a xs) (haS : a ∉ S) (hS : D ∉ S) (hD : H1 D = none) (hJ : ∀ H H', Kp [D] H H' → J H → J H') (j0 : J H1) (p0 : Pd 0 []) (hn : xs.length ≤ 100000)
    (hs : ∀ i x, xs[i]? = some x → LcTurn K D S H1 J Pd g tt te vs σ i x)
    (hd : ∀ H' acc ds, Kp (D :: S) H1 H' → J H' → H' D = some (.lst acc) → NkAll K H' acc ds → Pd xs.length ds → ds.length ≤ xs.length → Qd H') :
    ∃ W : Nat → Nat → Hp → Prop, (∃ m, W 0 m (L2.upd H1 D (.lst []))) ∧ ∀ i m H, W i m H →
      ((Itl K a).stop i H ∧ Qd H) ∨ ((Itl K a).go i H ∧ ∃ Nx : Hp → Prop, (∀ H', Nx H' → ∃ m', m' < m ∧ W (i + 1) m' H') ∧ ∀ x H', (Itl K a).yld i H x H' → g x (wipe σ vs) H' fun σ2 H2 => wipe σ2 vs = wipe σ vs ∧ tt σ2 H2 fun b H3 =>
        if b = true then te σ2 H3 fun y H4 => ∃ acc, H4 D = some (.lst acc) ∧ acc.length < sizeLine ∧ Nx (L2.upd H4 D (.lst (acc ++ [y]))) else Nx H3) :=
  lc_list (K := K) (xs := xs) (Lc K D S H1 J Pd) (Lc.start hD j0 hJ p0) (fun i H' _ p => SqL.kpD src hD p.choose_spec.choose_spec.1 haS)
    (fun i x H' hx p => lc_turn hS hJ (by have := (List.getElem?_eq_some_iff.mp hx).1; omega) (hs i x hx) p)
    fun H' ⟨acc, ds, k, j, h1, h2, p, hl⟩ => hd H' acc ds k j h1 h2 p hl
/-- over a tuple -/
theorem lc_dataT (src : SqT K H1 a xs) (hS : D ∉ S) (hD : H1 D = none) (hJ : ∀ H H', Kp [D] H H' → J H → J H') (j0 : J H1) (p0 : Pd 0 []) (hn : xs.length ≤ 100000)
    (hs : ∀ i x, xs[i]? = some x → LcTurn K D S H1 J Pd g tt te vs σ i x)
    (hd : ∀ H' acc ds, Kp (D :: S) H1 H' → J H' → H' D = some (.lst acc) → NkAll K H' acc ds → Pd xs.length ds → ds.length ≤ xs.length → Qd H') :
    ∃ W : Nat → Nat → Hp → Prop, (∃ m, W 0 m (L2.upd H1 D (.lst []))) ∧ ∀ i m H, W i m H →
      ((Itt K a).stop i H ∧ Qd H) ∨ ((Itt K a).go i H ∧ ∃ Nx : Hp → Prop, (∀ H', Nx H' → ∃ m', m' < m ∧ W (i + 1) m' H') ∧ ∀ x H', (Itt K a).yld i H x H' → g x (wipe σ vs) H' fun σ2 H2 => wipe σ2 vs = wipe σ vs ∧ tt σ2 H2 fun b H3 =>
        if b = true then te σ2 H3 fun y H4 => ∃ acc, H4 D = some (.lst acc) ∧ acc.length < sizeLine ∧ Nx (L2.upd H4 D (.lst (acc ++ [y]))) else Nx H3) :=
  lc_tup (K := K) (xs := xs) (Lc K D S H1 J Pd) (Lc.start hD j0 hJ p0) (fun i H' _ p => SqT.tk p.choose_spec.choose_spec.1.tk src)
    (fun i x H' hx p => lc_turn hS hJ (by have := (List.getElem?_eq_some_iff.mp hx).1; omega) (hs i x hx) p)
    fun H' ⟨acc, ds, k, j, h1, h2, p, hl⟩ => hd H' acc ds k j h1 h2 p hl
/-- over a range -/
theorem lc_dataR {lo : Int} {n : Nat} (hS : D ∉ S) (hD : H1 D = none) (hJ : ∀ H H', Kp [D] H H' → J H → J H') (j0 : J H1) (p0 : Pd 0 []) (hn : n ≤ 100000)
    (hs : ∀ i, i < n → LcTurn K D S H1 J Pd g tt te vs σ i (.int (lo + i)))
    (hd : ∀ H' acc ds, Kp (D :: S) H1 H' → J H' → H' D = some (.lst acc) → NkAll K H' acc ds → Pd n ds → ds.length ≤ n → Qd H') :
    ∃ W : Nat → Nat → Hp → Prop, (∃ m, W 0 m (L2.upd H1 D (.lst []))) ∧ ∀ i m H, W i m H →
      ((Itr lo n).stop i H ∧ Qd H) ∨ ((Itr lo n).go i H ∧ ∃ Nx : Hp → Prop, (∀ H', Nx H' → ∃ m', m' < m ∧ W (i + 1) m' H') ∧ ∀ x H', (Itr lo n).yld i H x H' → g x (wipe σ vs) H' fun σ2 H2 => wipe σ2 vs = wipe σ vs ∧ tt σ2 H2 fun b H3 =>
        if b = true then te σ2 H3 fun y H4 => ∃ acc, H4 D = some (.lst acc) ∧ acc.length < sizeLine ∧ Nx (L2.upd H4 D (.lst (acc ++ [y]))) else Nx H3) :=
  lc_range (lo := lo) (n := n) (Lc K D S H1 J Pd) (Lc.start hD j0 hJ p0)
    (fun i H' hi p => lc_turn hS hJ (by omega) (hs i hi) p)
    fun H' ⟨acc, ds, k, j, h1, h2, p, hl⟩ => hd H' acc ds k j h1 h2 p hl
end
end
/-- nothing is asked of the heap -/
abbrev J0 : Hp → Prop := fun _ => True
theorem hJ0 {D : Addr} : ∀ H H', Kp [D] H H' → J0 H → J0 H' := fun _ _ _ _ => trivial
theorem nkAll_ints {K : PySem.W.Frag} {H : Hp} : ∀ {acc : List V} {ns : List Int}, NkAll K H acc (ns.map .num) → acc = ns.map V.int
  | _, [], h => by
    have h' : NkAll K H _ [] := h
    cases h'; rfl
  | _, n :: ns, h => by
    have h' : NkAll K H _ (.num n :: ns.map .num) := h
    cases h' with
    | cons h1 h2 => rw [nkAll_ints h2, h1.inv_num]; rfl
theorem nk_ints {K : PySem.W.Frag} {H : Hp} : ∀ (ns : List Int), NkAll K H (ns.map V.int) (ns.map .num)
  | [] => .nil
  | n :: ns => .cons (.num n) (nk_ints ns)
theorem nkAll_texts {K : PySem.W.Frag} {H : Hp} : ∀ {acc : List V} {ns : List Str}, NkAll K H acc (ns.map .text) → acc = ns.map V.str
  | _, [], h => by
    have h' : NkAll K H _ [] := h
    cases h'; rfl
  | _, n :: ns, h => by
    have h' : NkAll K H _ (.text n :: ns.map .text) := h
    cases h' with
    | cons h1 h2 => rw [nkAll_texts h2, h1.inv_text]; rfl
theorem nk_texts {K : PySem.W.Frag} {H : Hp} : ∀ (ns : List Str), NkAll K H (ns.map V.str) (ns.map .text)
  | [] => .nil
  | n :: ns => .cons (.text n) (nk_texts ns)

theorem at_g {α : Type} {xs : List α} {z : Int} {j : Nat} {v : α} (e : z = (j : Int)) (h : xs[j]? = some v) : atI xs z = some v := by
  rw [e]
  exact atI_nat h
theorem tYes_el {σ : L2.St} {H : Hp} {A B : Hp → Prop} (h : A H) : tYes σ H fun b H3 => if b = true then A H3 else B H3 := by
  show if true = true then A H else B H
  rw [if_pos rfl]
  exact h

section
variable {P : Program} {w : World} {K : PySem.W.Frag} {mg : Str → Option Value} {base : Heap}
/-! ### _law_of -/
def spOf : Sp := fun vs H Q _ => ∃ (a b : Addr) (z : Str), vs = [.ref a, .str z] ∧ Deal H a b ∧ 1 ≤ z.length ∧ z.length ≤ 1000 ∧ ∀ (c : Nat) (H' : Hp), c ∈ z.cps.toList → Kp [a, b] H H' → Deal H' a b → Q (.str ⟨#[c]⟩) H'
theorem scOf : FnScope ["_law_deal_here", "_law_some"] ["_law_deal_here", "_law_some"] (defScope sOf) := ⟨rfl, rfl, rfl, by decide +kernel, rfl, by decide +kernel, by decide +kernel⟩
theorem ok_of (D : Df K mg "_law_of" sOf ["_law_deal_here", "_law_some"]) (T : Txt mg) (CA : Cal P w K mg base 1 "_law_any" ["_law_deal_here", "_law_bound"] spAny) : Cal P w K mg base 2 "_law_of" ["_law_deal_here", "_law_some"] spOf := by
  refine cal_mk D scOf (fun vs H Q E h => ?_) (fun f cdv A outer s H vs Q E hr h => ?_)
  · obtain ⟨a, b, z, rfl, _⟩ := h
    rfl
  · obtain ⟨a, b, z, rfl, d, z1, z2, k⟩ := h
    refine ⟨_, pss_one (ps_ret (pe_ix ix_str (pv 1) (pe_cal CA hr (pa_cons (pv 0) (pa_cons (w_lenS T.len (pv 1)) pa_nil))) (fun _ _ => rfl))), ?_⟩
    have zs : z.length ≤ sizeLine := by rw [sizeLine_eq]; omega
    refine ⟨_, rfl, _, rfl, _, rfl, z, rfl, zs, a, b, (z.length : Int), rfl, d, by omega, by omega, fun r H' r0 r1 kp d' => ?_⟩
    have hlen : z.cps.toList.length = z.length := by rw [Array.length_toList]; rfl
    have hr' : r.toNat < z.cps.toList.length := by rw [hlen]; omega
    exact ⟨z, r, z.cps.toList[r.toNat], rfl, rfl, zs, at_g (j := r.toNat) (by omega) (List.getElem?_eq_getElem hr'), k _ _ (List.getElem_mem _) kp d'⟩

/-! ### _law_deal -/
def spDeal (K : PySem.W.Frag) : Sp := fun vs H Q _ => ∃ (l : Addr) (ns : List Int), vs = [.ref l, .int 25] ∧ SqL K H l (ns.map .int) ∧ ns.length ≤ 63 ∧ ∀ (a b : Addr) (H' : Hp), H a = none → H b = none → Kp [] H H' → Deal H' a b → Q (.ref a) H'
abbrev nDeal : List Str := ["_law_script", "_law_base", "_law_cell", "_law_cells", "_law_mix"]
theorem scDeal : FnScope nDeal ["_law_script", "_law_base"] (defScope sDeal) := ⟨rfl, rfl, rfl, by decide +kernel, rfl, by decide +kernel, by decide +kernel⟩
def posNums (n : Nat) (ds : List NestedKey) : Prop := ∃ ns : List Int, ds = ns.map .num ∧ ∀ n ∈ ns, 0 ≤ n
theorem posNums.snoc {i j : Nat} {ds : List NestedKey} {n : Int} (h : posNums i ds) (hn : 0 ≤ n) : posNums j (ds ++ [.num n]) := by
  obtain ⟨ns, rfl, hp⟩ := h
  refine ⟨ns ++ [n], by simp, fun m hm => ?_⟩
  rcases List.mem_append.mp hm with h | h
  · exact hp m h
  · rw [List.mem_singleton.mp h]; exact hn
theorem ok_deal (D : Df K mg "_law_deal" sDeal ["_law_script", "_law_base"]) (T : Txt mg) : Cal P w K mg base 1 "_law_deal" ["_law_script", "_law_base"] (spDeal K) := by
  refine cal_mk D scDeal (fun vs H Q E h => ?_) (fun f cdv A outer s H vs Q E hr h => ?_)
  · obtain ⟨l, ns, rfl, _⟩ := h
    rfl
  · obtain ⟨l, ns, rfl, hS, hl, k⟩ := h
    refine ⟨_, pss_cons (ps_setLc (i := 3) (own := [("_law_cell", 2)]) (g := gName 2) rfl scDeal.nd rfl rfl (sw_true rfl rfl rfl (by decide +kernel)) (pi_list (pe_slice sl_list (pv 0) po_none (po_some pe_int)))
          (blkOk_by (own := [("_law_cell", 2)]) (N := nDeal) (sc := defScope sDeal) (by decide +kernel)) (fun _ _ _ _ _ => pg_name (i := 2) scDeal.nd rfl (Or.inl rfl)) (fun _ _ _ _ _ => pts_nil) (fun _ _ _ _ _ => w_abs T.abs (w_int T.int (pv 2))))
      (pss_cons (ps_set (i := 4) scDeal.nd rfl (Or.inl rfl) (pe_op op_add (pe_op op_mul pe_int (pv 1)) pe_int))
      (pss_cons (ps_for PassesOwn.never rfl (pi_list (pv 3)) (pg_name (i := 2) scDeal.nd rfl (Or.inl rfl))
        (pss_one (ps_set (i := 4) scDeal.nd rfl (Or.inl rfl) (pe_op op_mod (w_int T.int (pe_op op_add (pe_op op_add (pe_op op_mul (pv 4) pe_int) (pe_op op_mod (pv 2) pe_int)) pe_int)) pe_int))))
      (pss_one (ps_ret (pe_lst (pa_cons (pe_revL (pe_lc (own := [("_law_cell", 2)]) (g := gName 2) rfl scDeal.nd (pi_list (pv 3)) (blkOk_by (own := [("_law_cell", 2)]) (N := nDeal) (sc := defScope sDeal) (by decide +kernel)) (fun _ _ _ _ _ => pg_name (i := 2) scDeal.nd rfl (Or.inl rfl))
        (fun _ _ _ _ _ => pts_one (pt_cmpR op_ge (pv 2) (pe_op op_pow pe_int pe_int) (nomark _))) (fun _ _ _ _ _ => pv 2))) (pa_cons (pv 4) pa_nil))))))), ?_⟩
    refine ⟨_, rfl, _, rfl, _, _, rfl, hS, fun p hp => ⟨p, rfl, ⟨_, SqL.of upd_same⟩, fun D1 hD1 => ?_⟩⟩
    obtain ⟨ms, hms, hml⟩ : ∃ ms : List Int, cutV (ns.map V.int) none (some 63) = ms.map V.int ∧ ms.length ≤ 63 := by
      refine ⟨(ns.drop (HT.sIx (ns.map V.int).length 0 none)).take (HT.sIx (ns.map V.int).length (ns.map V.int).length (some 63) - HT.sIx (ns.map V.int).length 0 none), ?_, ?_⟩
      · unfold cutV
        rw [List.map_take, List.map_drop]
      · rw [List.length_take, List.length_drop]; omega
    rw [hms] at hD1 ⊢
    have kp1 := Kp.new (S := []) hp (o := .lst (ms.map .int))
    refine lc_dataL (K := K) (S := []) (J := J0) (Pd := posNums) (xs := ms.map V.int) (SqL.of upd_same) (by simp) (by simp) hD1 hJ0 trivial ⟨[], rfl, by simp⟩ (by rw [List.length_map]; omega) (fun i x hx => ?_) fun H1 acc ds k1 _ h1 nk pd hdl => ?_
    · obtain ⟨n, hn, rfl⟩ : ∃ n, ms[i]? = some n ∧ V.int n = x := by
        rw [List.getElem?_map] at hx
        exact Option.map_eq_some_iff.mp hx
      intro H2 acc ds R N k2 _ h2 nk pd hdl hR hN
      refine ⟨rfl, tYes_el ⟨_, rfl, .inl ⟨_, rfl, _, rfl, hR _ _ ⟨Kp.refl _, trivial, .num (if n < 0 then -n else n), .num _, pd.snoc ?_⟩⟩⟩⟩
      split <;> omega
    obtain ⟨cs, rfl, hpos⟩ := pd
    obtain rfl := nkAll_ints nk
    have hcl : cs.length ≤ 63 := by rw [List.length_map, List.length_map] at hdl; omega
    have kD1 : Kp [] (L2.upd H p (.lst (ms.map .int))) H1 := Kp.drop hD1 k1
    refine ⟨_, rfl, _, _, rfl, rfl, .inl ⟨by decide, by decide⟩, _, _, rfl, rfl, ?_⟩
    refine ⟨_, rfl, D1, rfl, ⟨_, SqL.of h1⟩, for_list (K := K) (a := D1) (xs := cs.map V.int) (fun i σ H' => ∃ (m : Int) (c : Option V), σ = [some (.ref l), some (.int 25), c, some (.ref D1), some (.int m)] ∧ H' = H1 ∧ 0 ≤ m ∧ m < 2147483647)
      ⟨_, none, rfl, rfl, by decide, by decide⟩ (fun i σ H' _ ⟨_, _, _, e, _⟩ => by rw [e]; exact SqL.of h1) ?_ ?_⟩
    · rintro i x σ H' hx ⟨m, c, rfl, rfl, m0, m1⟩
      obtain ⟨n, hn, rfl⟩ : ∃ n, cs[i]? = some n ∧ V.int n = x := by
        rw [List.getElem?_map] at hx
        exact Option.map_eq_some_iff.mp hx
      refine ⟨_, rfl, _, _, rfl, rfl, .inl ⟨by omega, by omega⟩, _, rfl, _, _, rfl, rfl, (by show (0 : Int) < 2147483563; decide), _, _, rfl, rfl, _, _, rfl, rfl, .inl ⟨_, rfl, _, _, rfl, rfl, (by show (0 : Int) < 2147483647; decide), ?_⟩⟩
      exact ⟨_, _, rfl, rfl, Int.emod_nonneg _ (by decide), Int.emod_lt_of_pos _ (by decide)⟩
    · rintro σ H' ⟨m, c, rfl, rfl, m0, m1⟩
      refine ⟨_, rfl, D1, rfl, ⟨_, SqL.of h1⟩, fun D2 hD2 => ?_⟩
      refine lc_dataL (K := K) (S := []) (J := J0) (Pd := posNums) (xs := cs.map V.int) (SqL.of h1) (by simp) (by simp) hD2 hJ0 trivial ⟨[], rfl, by simp⟩ (by rw [List.length_map]; omega) (fun i x hx => ?_) fun H2 acc ds k2 _ h2 nk pd hdl => ?_
      · obtain ⟨n, hn, rfl⟩ : ∃ n, cs[i]? = some n ∧ V.int n = x := by
          rw [List.getElem?_map] at hx
          exact Option.map_eq_some_iff.mp hx
        intro H2 acc ds R N k2 _ h2 nk pd hdl hR hN
        refine ⟨rfl, _, rfl, _, _, rfl, rfl, ⟨by decide, by decide, by decide⟩, _, _, rfl, rfl, _, rfl, ite2 (fun _ => ?_) fun _ => ?_⟩
        · exact ⟨_, rfl, hR _ _ ⟨Kp.refl _, trivial, _, .num n, pd.snoc (hpos n (List.mem_of_getElem? hn))⟩⟩
        · exact hN _ (Kp.refl _) trivial (by obtain ⟨ns, e, q⟩ := pd; exact ⟨ns, e, q⟩)
      · obtain ⟨es, rfl, hpos2⟩ := pd
        obtain rfl := nkAll_ints nk
        have hel : es.length ≤ 63 := by rw [List.length_map, List.length_map] at hdl; omega
        have kD2 : Kp [] _ H2 := Kp.drop hD2 k2
        refine ⟨D2, _, rfl, SqL.of h2, fun b hb => ⟨_, rfl, (by show 2 ≤ sizeLine; decide), fun a ha => ?_⟩⟩
        have kall := ((kp1.trans kD1).trans kD2).trans (Kp.new (S := []) hb (o := .lst (es.map V.int).reverse))
        have ha' := ha
        have kall2 := kall.trans (Kp.new (S := []) ha (o := .lst [.ref b, .int m]))
        have nab : a ≠ b := fun e => by subst e; rw [upd_same] at ha; cases ha
        refine k a b _ (kall.free (by simp) ha) (((kp1.trans kD1).trans kD2).free (by simp) hb) kall2 ⟨es.reverse, m, nab, upd_same, ?_, fun n hn => hpos2 n (List.mem_reverse.mp hn), by rw [List.length_reverse]; exact hel, m0, m1⟩
        rw [upd_ne nab.symm, upd_same, List.map_reverse]
end
end Wb

namespace Wb
open PySem L2
open PyProof.Rows (envOfC)

/-- a fraction as data -/
def frD (a t : Nat) : NestedKey := .tup [.num ((fr a t).1 : Nat), .num ((fr a t).2 : Nat)]
theorem frD_zero {t : Nat} (ht : 0 < t) : frD 0 t = .tup [.num 0, .num 1] := by unfold frD; rw [fr_zero ht]; rfl
theorem frD_self {t : Nat} (ht : 0 < t) : frD t t = .tup [.num 1, .num 1] := by unfold frD; rw [fr_self ht]; rfl
/-- the line under which all parts lie -/
abbrev big : Nat := 16384
section
variable {P : Program} {w : World} {K : PySem.W.Frag} {mg : Str → Option Value} {base : Heap}
theorem frD_at {H : Hp} {v : V} {a t : Nat} (h : Nk K H v (frD a t)) : ∃ p, v = .ref p ∧ SqT K H p [.int ((fr a t).1 : Nat), .int ((fr a t).2 : Nat)] := by
  obtain ⟨p, x, y, rfl, h1, h2, h3⟩ := Nk.inv_tup2 h
  rw [h2.inv_num, h3.inv_num] at h1
  exact ⟨p, rfl, h1⟩
theorem nat_div (x y : Nat) : ((x : Int) / (y : Int)) = ((x / y : Nat) : Int) := by
  first
    | exact (Int.natCast_ediv x y).symm
    | rfl
theorem nat_mod (x y : Nat) : ((x : Int) % (y : Int)) = ((x % y : Nat) : Int) := by
  first
    | exact (Int.natCast_emod x y).symm
    | rfl

/-! ### _law_common, _law_low -/
def spCommon : Sp := fun vs H Q _ => ∃ x y : Nat, vs = [.int (x : Int), .int (y : Int)] ∧ Q (.int ((Nat.gcd x y : Nat) : Int)) H
abbrev nCommon : List Str := ["_law_one", "_law_other"]
theorem scCommon : FnScope nCommon nCommon (defScope sCommon) := ⟨rfl, rfl, rfl, by decide +kernel, rfl, by decide +kernel, by decide +kernel⟩
theorem ok_common (D : Df K mg "_law_common" sCommon nCommon) (T : Txt mg) : Cal P w K mg base 1 "_law_common" nCommon spCommon := by
  refine cal_mk D scCommon (fun vs H Q E h => ?_) (fun f cdv A outer s H vs Q E hr h => ?_)
  · obtain ⟨x, y, rfl, _⟩ := h
    rfl
  · obtain ⟨x, y, rfl, k⟩ := h
    refine ⟨_, pss_cons (ps_par (i := 0) (j := 1) rfl scCommon.nd rfl rfl (by decide) rfl rfl (pa_cons (w_abs T.abs (w_int T.int (pv 0))) (pa_cons (w_abs T.abs (w_int T.int (pv 1))) pa_nil)) rfl)
      (pss_cons (ps_while PassesOwn.never (pt_cmpR op_gt (pv 1) pe_int (nomark _)) (pss_one (ps_par (i := 0) (j := 1) rfl scCommon.nd rfl rfl (by decide) rfl rfl (pa_cons (pv 1) (pa_cons (pe_op op_mod (pv 0) (pv 1)) pa_nil)) rfl)))
      (pss_one (ps_ret (pv 0)))), ?_⟩
    have ab : ∀ n : Nat, (if (n : Int) < 0 then -(n : Int) else n) = n := fun n => by split <;> omega
    refine ⟨_, rfl, .inl ⟨_, rfl, _, rfl, _, rfl, .inl ⟨_, rfl, _, rfl, _, _, rfl, ?_⟩⟩⟩
    rw [ab, ab]
    refine ⟨fun n σ H' => ∃ u v : Nat, σ = [some (.int (u : Int)), some (.int (v : Int))] ∧ H' = H ∧ Nat.gcd u v = Nat.gcd x y ∧ v = n, ⟨y, x, y, rfl, rfl, rfl, rfl⟩, ?_⟩
    rintro n σ H' ⟨u, v, rfl, rfl, e, rfl⟩
    refine ⟨_, rfl, _, _, rfl, rfl, _, rfl, ?_⟩
    by_cases hv : 0 < v
    · refine iteBT (decide_eq_true (by omega)) ⟨fun σ' H'' => ∃ u' v' : Nat, σ' = [some (.int (u' : Int)), some (.int (v' : Int))] ∧ H'' = H' ∧ Nat.gcd u' v' = Nat.gcd x y ∧ v' = u % v, fun σ' H'' z => ⟨u % v, Nat.mod_lt _ hv, z⟩, ?_⟩
      refine ⟨_, rfl, _, rfl, _, rfl, _, _, rfl, rfl, (by show (0 : Int) < (v : Int); omega), _, _, rfl, ?_⟩
      refine ⟨v, u % v, ?_, rfl, ?_, rfl⟩
      · show [some (V.int (v : Int)), some (V.int ((u : Int) % (v : Int)))] = _
        rw [nat_mod]
      · rw [← e, Nat.gcd_comm u v, Nat.gcd_rec v u, Nat.gcd_comm]
    · refine iteBF (decide_eq_false (by omega)) ?_
      have v0 : v = 0 := by omega
      subst v0
      rw [Nat.gcd_zero_right] at e
      refine ⟨_, rfl, ?_⟩
      rw [e]
      exact k
def spLow (K : PySem.W.Frag) : Sp := fun vs H Q _ => ∃ x y : Nat, vs = [.int (x : Int), .int (y : Int)] ∧ 0 < y ∧ y < 1073741824 ∧ ∀ v H', Kp [] H H' → Nk K H' v (frD x y) → Q v H'
abbrev pLow : List Str := ["_law_top", "_law_bottom"]
abbrev nLow : List Str := ["_law_top", "_law_bottom", "_law_common_here"]
theorem scLow : FnScope nLow pLow (defScope sLow) := ⟨rfl, rfl, rfl, by decide +kernel, rfl, by decide +kernel, by decide +kernel⟩
theorem nk_pair {H : Hp} {p : Addr} {i j : Int} (hp : H p = none) : Nk K (L2.upd H p (.tup [.int i, .int j])) (.ref p) (.tup [.num i, .num j]) := Nk.made (.cons (.num i) (.cons (.num j) .nil)) hp
theorem ok_low (D : Df K mg "_law_low" sLow pLow) (T : Txt mg) (C : Cal P w K mg base 1 "_law_common" nCommon spCommon) : Cal P w K mg base 2 "_law_low" pLow (spLow K) := by
  refine cal_mk D scLow (fun vs H Q E h => ?_) (fun f cdv A outer s H vs Q E hr h => ?_)
  · obtain ⟨x, y, rfl, _⟩ := h
    rfl
  · obtain ⟨x, y, rfl, y0, y1, k⟩ := h
    refine ⟨_, pss_cons (ps_set (i := 2) scLow.nd rfl (Or.inl rfl) (pe_cal C hr (pa_cons (pv 0) (pa_cons (pv 1) pa_nil))))
      (pss_one (ps_ret (pe_tup (pa_cons (pe_op op_fdiv (w_int T.int (pv 0)) (pv 2)) (pa_cons (pe_op op_fdiv (w_int T.int (pv 1)) (pv 2)) pa_nil))))), ?_⟩
    have g0 : 0 < Nat.gcd x y := Nat.gcd_pos_of_pos_right x y0
    have g1 : Nat.gcd x y ≤ y := Nat.le_of_dvd y0 (Nat.gcd_dvd_right x y)
    refine ⟨_, rfl, _, rfl, x, y, rfl, ?_⟩
    refine ⟨_, rfl, .inl ⟨_, rfl, _, rfl, _, _, rfl, rfl, ⟨by omega, by omega⟩, _, rfl, .inl ⟨_, rfl, _, rfl, _, _, rfl, rfl, ⟨by omega, by omega⟩, (by show 2 ≤ sizeLine; decide), fun p hp => ?_⟩⟩⟩
    show Q (.ref p) (L2.upd H p (.tup [.int ((x : Int) / ((Nat.gcd x y : Nat) : Int)), .int ((y : Int) / ((Nat.gcd x y : Nat) : Int))]))
    rw [nat_div, nat_div]
    exact k _ _ (Kp.new hp) (nk_pair hp)

/-! ### fraction -/
abbrev pFraction : List Str := ["top", "bottom"]
abbrev nFraction : List Str := ["top", "bottom", "common"]
theorem scFraction : FnScope nFraction pFraction (defScope sFraction) := ⟨rfl, rfl, rfl, by decide +kernel, rfl, by decide +kernel, by decide +kernel⟩
theorem ok_fraction (D : Df K mg "fraction" sFraction pFraction) (T : Txt mg) : Cal P w K mg base 1 "fraction" pFraction (spLow K) := by
  refine cal_mk D scFraction (fun vs H Q E h => ?_) (fun f cdv A outer s H vs Q E hr h => ?_)
  · obtain ⟨x, y, rfl, _⟩ := h
    rfl
  · obtain ⟨x, y, rfl, y0, y1, k⟩ := h
    refine ⟨_, pss_cons (ps_if (pt_cmpR op_eq (pv 1) pe_int (nomark _)) pss_never pss_nil) (pss_cons (ps_if (pt_cmpR op_lt (pv 1) pe_int (nomark _)) pss_never pss_nil)
      (pss_cons (ps_set (i := 2) scFraction.nd rfl (Or.inl rfl) (pe_callBfun cr_gcd rfl T.gcd (pa_cons (pv 0) (pa_cons (pv 1) pa_nil))))
      (pss_one (ps_ret (pe_tup (pa_cons (pe_op op_fdiv (pv 0) (pv 2)) (pa_cons (pe_op op_fdiv (pv 1) (pv 2)) pa_nil))))))), ?_⟩
    have g0 : 0 < Nat.gcd x y := Nat.gcd_pos_of_pos_right x y0
    have g1 : Nat.gcd x y ≤ y := Nat.le_of_dvd y0 (Nat.gcd_dvd_right x y)
    refine ⟨_, rfl, rfl, _, rfl, iteBF (decide_eq_false fun q => by have := V.int.inj q; omega) ?_⟩
    refine ⟨_, rfl, _, _, rfl, rfl, _, rfl, iteBF (decide_eq_false (by omega)) ?_⟩
    refine ⟨_, rfl, _, rfl, _, _, rfl, ?_⟩
    have e1 : (x : Int).natAbs = x := Int.natAbs_natCast x
    have e2 : (y : Int).natAbs = y := Int.natAbs_natCast y
    rw [e1, e2]
    refine ⟨_, rfl, _, rfl, _, _, rfl, rfl, ⟨by omega, by omega⟩, _, rfl, _, rfl, _, _, rfl, rfl, ⟨by omega, by omega⟩, (by show 2 ≤ sizeLine; decide), fun p hp => ?_⟩
    show Q (.ref p) (L2.upd H p (.tup [.int ((x : Int) / ((Nat.gcd x y : Nat) : Int)), .int ((y : Int) / ((Nat.gcd x y : Nat) : Int))]))
    rw [nat_div, nat_div]
    exact k _ _ (Kp.new hp) (nk_pair hp)

/-! ### plus, _law_plus, _law_over -/
def spPlus (K : PySem.W.Frag) : Sp := fun vs H Q _ => ∃ (u v : V) (a b t : Nat), vs = [u, v] ∧ Nk K H u (frD a t) ∧ Nk K H v (frD b t) ∧ 0 < t ∧ t ≤ big ∧ a ≤ big ∧ b ≤ big ∧ ∀ r H', Kp [] H H' → Nk K H' r (frD (a + b) t) → Q r H'
theorem mul_big {x y : Nat} (hx : x ≤ big) (hy : y ≤ big) : x * y ≤ 268435456 := by
  have := Nat.mul_le_mul hx hy
  simpa [big] using this
theorem cmul {x y : Nat} (hx : x ≤ big) : CMul (x : Int) y := .inl ⟨by omega, by
  have : (x : Int) ≤ 16384 := by simp [big] at hx; omega
  omega⟩
abbrev pPlus : List Str := ["one", "other"]
abbrev pPlusL : List Str := ["_law_one", "_law_other"]
theorem scPlus : FnScope pPlus pPlus (defScope sPlus) := ⟨rfl, rfl, rfl, by decide +kernel, rfl, by decide +kernel, by decide +kernel⟩
theorem scPlusL : FnScope pPlusL pPlusL (defScope sPlusL) := ⟨rfl, rfl, rfl, by decide +kernel, rfl, by decide +kernel, by decide +kernel⟩
theorem scOver : FnScope pPlusL pPlusL (defScope sOver) := ⟨rfl, rfl, rfl, by decide +kernel, rfl, by decide +kernel, by decide +kernel⟩
theorem ok_plus (D : Df K mg "plus" sPlus pPlus) (C : Cal P w K mg base 1 "fraction" pFraction (spLow K)) : Cal P w K mg base 2 "plus" pPlus (spPlus K) := by
  refine cal_mk D scPlus (fun vs H Q E h => ?_) (fun f cdv A outer s H vs Q E hr h => ?_)
  · obtain ⟨u, v, a, b, t, rfl, _⟩ := h
    rfl
  · obtain ⟨u, v, a, b, t, rfl, hu, hv, t0, t1, a1, b1, k⟩ := h
    refine ⟨_, pss_one (ps_ret (pe_cal C hr (pa_cons (pe_op op_add (pe_op op_mul (pe_ix ix_tup (pv 0) pe_int (fun _ _ => rfl)) (pe_ix ix_tup (pv 1) pe_int (fun _ _ => rfl))) (pe_op op_mul (pe_ix ix_tup (pv 1) pe_int (fun _ _ => rfl)) (pe_ix ix_tup (pv 0) pe_int (fun _ _ => rfl))))
      (pa_cons (pe_op op_mul (pe_ix ix_tup (pv 0) pe_int (fun _ _ => rfl)) (pe_ix ix_tup (pv 1) pe_int (fun _ _ => rfl))) pa_nil)))), ?_⟩
    obtain ⟨p, rfl, hp⟩ := frD_at hu
    obtain ⟨q, rfl, hq⟩ := frD_at hv
    have l1 := fr_le1 a t
    have l2 := fr_le2 a t
    have l3 := fr_le1 b t
    have l4 := fr_le2 b t
    have q2 := fr_pos2 (a := a) t0
    have q4 := fr_pos2 (a := b) t0
    have m1 := mul_big (Nat.le_trans l2 t1) (Nat.le_trans l4 t1)
    have m0 := Nat.mul_pos q2 q4
    refine ⟨_, rfl, p, _, 0, _, rfl, rfl, hp, at_0, _, rfl, q, _, 1, _, rfl, rfl, hq, at_1, _, _, rfl, rfl, cmul (Nat.le_trans l1 a1), _, rfl, q, _, 0, _, rfl, rfl, hq, at_0, _, rfl, p, _, 1, _, rfl, rfl, hp, at_1, _, _, rfl, rfl, cmul (Nat.le_trans l3 b1), _, _, rfl, rfl,
      _, rfl, p, _, 1, _, rfl, rfl, hp, at_1, _, rfl, q, _, 1, _, rfl, rfl, hq, at_1, _, _, rfl, rfl, cmul (Nat.le_trans l2 t1), (fr a t).1 * (fr b t).2 + (fr b t).1 * (fr a t).2, (fr a t).2 * (fr b t).2, ?_, m0, by omega, fun v H' kp nk => k v H' kp ?_⟩
    · rw [Int.natCast_add, Int.natCast_mul, Int.natCast_mul, Int.natCast_mul]; rfl
    · unfold frD at nk ⊢
      rw [fr_plus a b t0] at nk
      exact nk
theorem ok_plusL (D : Df K mg "_law_plus" sPlusL pPlusL) (C : Cal P w K mg base 2 "_law_low" pLow (spLow K)) : Cal P w K mg base 3 "_law_plus" pPlusL (spPlus K) := by
  refine cal_mk D scPlusL (fun vs H Q E h => ?_) (fun f cdv A outer s H vs Q E hr h => ?_)
  · obtain ⟨u, v, a, b, t, rfl, _⟩ := h
    rfl
  · obtain ⟨u, v, a, b, t, rfl, hu, hv, t0, t1, a1, b1, k⟩ := h
    refine ⟨_, pss_one (ps_ret (pe_cal C hr (pa_cons (pe_op op_add (pe_op op_mul (pe_ix ix_tup (pv 0) pe_int (fun _ _ => rfl)) (pe_ix ix_tup (pv 1) pe_int (fun _ _ => rfl))) (pe_op op_mul (pe_ix ix_tup (pv 1) pe_int (fun _ _ => rfl)) (pe_ix ix_tup (pv 0) pe_int (fun _ _ => rfl))))
      (pa_cons (pe_op op_mul (pe_ix ix_tup (pv 0) pe_int (fun _ _ => rfl)) (pe_ix ix_tup (pv 1) pe_int (fun _ _ => rfl))) pa_nil)))), ?_⟩
    obtain ⟨p, rfl, hp⟩ := frD_at hu
    obtain ⟨q, rfl, hq⟩ := frD_at hv
    have l1 := fr_le1 a t
    have l2 := fr_le2 a t
    have l3 := fr_le1 b t
    have l4 := fr_le2 b t
    have q2 := fr_pos2 (a := a) t0
    have q4 := fr_pos2 (a := b) t0
    have m1 := mul_big (Nat.le_trans l2 t1) (Nat.le_trans l4 t1)
    have m0 := Nat.mul_pos q2 q4
    refine ⟨_, rfl, p, _, 0, _, rfl, rfl, hp, at_0, _, rfl, q, _, 1, _, rfl, rfl, hq, at_1, _, _, rfl, rfl, cmul (Nat.le_trans l1 a1), _, rfl, q, _, 0, _, rfl, rfl, hq, at_0, _, rfl, p, _, 1, _, rfl, rfl, hp, at_1, _, _, rfl, rfl, cmul (Nat.le_trans l3 b1), _, _, rfl, rfl,
      _, rfl, p, _, 1, _, rfl, rfl, hp, at_1, _, rfl, q, _, 1, _, rfl, rfl, hq, at_1, _, _, rfl, rfl, cmul (Nat.le_trans l2 t1), (fr a t).1 * (fr b t).2 + (fr b t).1 * (fr a t).2, (fr a t).2 * (fr b t).2, ?_, m0, by omega, fun v H' kp nk => k v H' kp ?_⟩
    · rw [Int.natCast_add, Int.natCast_mul, Int.natCast_mul, Int.natCast_mul]; rfl
    · unfold frD at nk ⊢
      rw [fr_plus a b t0] at nk
      exact nk
/-- the first divided by the second one, both of one bottom -/
def spOver (K : PySem.W.Frag) : Sp := fun vs H Q _ => ∃ (u v : V) (a b t : Nat), vs = [u, v] ∧ Nk K H u (frD a t) ∧ Nk K H v (frD b t) ∧ 0 < t ∧ t ≤ big ∧ a ≤ big ∧ 0 < b ∧ b ≤ big ∧ ∀ r H', Kp [] H H' → Nk K H' r (frD a b) → Q r H'
theorem ok_over (D : Df K mg "_law_over" sOver pPlusL) (C : Cal P w K mg base 2 "_law_low" pLow (spLow K)) : Cal P w K mg base 3 "_law_over" pPlusL (spOver K) := by
  refine cal_mk D scOver (fun vs H Q E h => ?_) (fun f cdv A outer s H vs Q E hr h => ?_)
  · obtain ⟨u, v, a, b, t, rfl, _⟩ := h
    rfl
  · obtain ⟨u, v, a, b, t, rfl, hu, hv, t0, t1, a1, b0, b1, k⟩ := h
    refine ⟨_, pss_one (ps_ret (pe_cal C hr (pa_cons (pe_op op_mul (pe_ix ix_tup (pv 0) pe_int (fun _ _ => rfl)) (pe_ix ix_tup (pv 1) pe_int (fun _ _ => rfl)))
      (pa_cons (pe_op op_mul (pe_ix ix_tup (pv 0) pe_int (fun _ _ => rfl)) (pe_ix ix_tup (pv 1) pe_int (fun _ _ => rfl))) pa_nil)))), ?_⟩
    obtain ⟨p, rfl, hp⟩ := frD_at hu
    obtain ⟨q, rfl, hq⟩ := frD_at hv
    have l1 := fr_le1 a t
    have l2 := fr_le2 a t
    have l3 := fr_le1 b t
    have l4 := fr_le2 b t
    have q2 := fr_pos2 (a := a) t0
    have q3 := fr_pos1 (t := t) b0
    have m1 := mul_big (Nat.le_trans l2 t1) (Nat.le_trans l3 b1)
    have m0 := Nat.mul_pos q2 q3
    refine ⟨_, rfl, p, _, 0, _, rfl, rfl, hp, at_0, _, rfl, q, _, 1, _, rfl, rfl, hq, at_1, _, _, rfl, rfl, cmul (Nat.le_trans l1 a1),
      _, rfl, p, _, 1, _, rfl, rfl, hp, at_1, _, rfl, q, _, 0, _, rfl, rfl, hq, at_0, _, _, rfl, rfl, cmul (Nat.le_trans l2 t1), (fr a t).1 * (fr b t).2, (fr a t).2 * (fr b t).1, ?_, m0, by omega, fun v H' kp nk => k v H' kp ?_⟩
    · rw [Int.natCast_mul, Int.natCast_mul]; rfl
    · unfold frD at nk ⊢
      rw [fr_over a b0 t0] at nk
      exact nk

/-! ### _law_sum -/
def spSum (K : PySem.W.Frag) : Sp := fun vs H Q _ => ∃ (l : Addr) (xs : List V) (as : List Nat) (t : Nat), vs = [.ref l] ∧ SqL K H l xs ∧ NkAll K H xs (as.map fun a => frD a t) ∧ 0 < t ∧ t ≤ big ∧ as.sum ≤ big ∧ ∀ r H', Kp [] H H' → Nk K H' r (frD as.sum t) → Q r H'
abbrev pSum : List Str := ["_law_some"]
abbrev nSum : List Str := ["_law_some", "_law_total", "_law_one"]
theorem scSum : FnScope nSum pSum (defScope sSum) := ⟨rfl, rfl, rfl, by decide +kernel, rfl, by decide +kernel, by decide +kernel⟩
theorem sum_take_le (as : List Nat) (i : Nat) : (as.take i).sum ≤ as.sum := by
  conv => rhs; rw [← List.take_append_drop i as]
  rw [List.sum_append]
  omega
theorem sum_take_succ {as : List Nat} {i a : Nat} (h : as[i]? = some a) : (as.take (i + 1)).sum = (as.take i).sum + a := by
  rw [List.take_add_one, h]
  simp
theorem ok_sum (D : Df K mg "_law_sum" sSum pSum) (C : Cal P w K mg base 3 "_law_plus" pPlusL (spPlus K)) : Cal P w K mg base 4 "_law_sum" pSum (spSum K) := by
  refine cal_mk D scSum (fun vs H Q E h => ?_) (fun f cdv A outer s H vs Q E hr h => ?_)
  · obtain ⟨l, xs, as, t, rfl, _⟩ := h
    rfl
  · obtain ⟨l, xs, as, t, rfl, hl, nk, t0, t1, s1, k⟩ := h
    refine ⟨_, pss_cons (ps_set (i := 1) scSum.nd rfl (Or.inl rfl) (pe_tup (pa_cons pe_int (pa_cons pe_int pa_nil))))
      (pss_cons (ps_for PassesOwn.never rfl (pi_list (pv 0)) (pg_name (i := 2) scSum.nd rfl (Or.inl rfl)) (pss_one (ps_set (i := 1) scSum.nd rfl (Or.inl rfl) (pe_cal C hr (pa_cons (pv 1) (pa_cons (pv 2) pa_nil))))))
      (pss_one (ps_ret (pv 1)))), ?_⟩
    refine ⟨(by show 2 ≤ sizeLine; decide), fun p hp => ?_⟩
    have xl : xs.length = as.length := by rw [nk.length, List.length_map]
    refine ⟨_, rfl, l, rfl, ⟨_, SqL.kp hl (Kp.new (S := []) hp) (by simp)⟩, for_list (K := K) (a := l) (xs := xs) (fun i σ H' => ∃ (v : V) (c : Option V), σ = [some (.ref l), some v, c] ∧ Kp [] H H' ∧ Nk K H' v (frD (as.take i).sum t))
      ⟨_, none, rfl, Kp.new hp, by rw [List.take_zero]; show Nk K _ _ (frD 0 t); rw [frD_zero t0]; exact nk_pair hp⟩ (fun i σ H' _ ⟨_, _, _, kp, _⟩ => SqL.kp hl kp (by simp)) ?_ ?_⟩
    · rintro i x σ H' hx ⟨v, c, rfl, kp, hv⟩
      obtain ⟨d, hd, hx2⟩ := NkAll.at' nk hx
      rw [List.getElem?_map] at hd
      obtain ⟨a, ha, rfl⟩ := Option.map_eq_some_iff.mp hd
      have b1 := sum_take_le as i
      have b2 := sum_take_le as (i + 1)
      rw [sum_take_succ ha] at b2
      refine ⟨_, rfl, _, rfl, v, x, (as.take i).sum, a, t, rfl, hv, hx2.tk kp.tk, t0, t1, by omega, by omega, fun r H2 kp2 hr2 => ?_⟩
      rw [← sum_take_succ ha] at hr2
      exact ⟨r, some x, rfl, kp.trans kp2, hr2⟩
    · rintro σ H' ⟨v, c, rfl, kp, hv⟩
      rw [xl, List.take_length] at hv
      exact ⟨_, rfl, k v H' kp hv⟩
end
end Wb

/-! enumerate(a tuple), walked -/
namespace PySem
open AutoSeq1 (wpAny_loadPart')
theorem wb_enumerate_newT (l : Addr) (items : Array Value) (n : Nat) (dct : Option Addr) (sl : Array (Option Value)) :
    Meets (Builtin.«enumerate.__new__» ⟨[.type "enumerate", .ref l], []⟩) (fun _ R s => s.heap.get? l = some { cls := .type "tuple", dict := dct, data := .seq items n, slots := sl } ∧
      R (.ok (.ret (.ref (s.heap.push { cls := .type "tuple_iterator", data := .fields #[.ref l, .int 0 0] }).objs.size)))
        { s with heap := (s.heap.push { cls := .type "tuple_iterator", data := .fields #[.ref l, .int 0 0] }).push { cls := .type "enumerate", data := .fields #[.none, .bool false, .ref s.heap.objs.size, rawInt 0, .none, .none] } }) :=
  .of_wp fun prog w A R s h => by
    obtain ⟨hp, g, d, tk, os⟩ := s
    obtain ⟨hl, h⟩ := h
    have hsub := sub_enumerate
    have hL : Heap.IsTuple (Shared.heap ⟨hp, g, d, tk, os⟩) l items := ⟨_, hl, rfl, n, rfl⟩
    wp_walk using wpAny_loadPart' hl
    refine wpAny_stack_any fun st => wpAny_pure ?_
    split
    · rename_i c _ _ _ _ _
      cases (c == Value.type "enumerate")
      · wp_walk using wpAny_loadPart' hl, wpAny_pyIter_tuple hL
        exact ⟨_, rfl, h⟩
      · wp_walk using wpAny_loadPart' hl, wpAny_pyIter_tuple hL
        exact ⟨_, rfl, h⟩
    · wp_walk using wpAny_loadPart' hl, wpAny_pyIter_tuple hL
      exact ⟨_, rfl, h⟩
section
variable {prog : Program} {w : World} {A : Around} {E : Value → Shared → Prop} {s : Shared}
theorem wb_enumerate_tuple {l : Addr} {items : Array Value} {Q : Value → Shared → Prop} (hL : s.heap.IsTuple l items)
    (h : ∀ h', IsEnum h' (s.heap.objs.size + 1) s.heap.objs.size 0 .none → h'.IsTupleIter s.heap.objs.size l 0 → (∀ b o, s.heap.get? b = some o → h'.get? b = some o) → Q (.ref (s.heap.objs.size + 1)) { s with heap := h' }) :
    wpAny (model prog w) A (call (.type "enumerate") [.ref l]) Q E s := by
  obtain ⟨⟨c, dct, dt, sl⟩, hl, hc, n, hd⟩ := hL
  simp only at hc hd
  subst hc hd
  refine callType_new F.called_enumerate (by decide) (F.typeCall_enumerate_1 _) (F.newCall_enumerate_1 _) (fun obj => F.args_object_init_2 obj _) F.entry_enumerate_new (wb_enumerate_newT l items n dct sl) ⟨hl, ?_⟩
  have hz : (s.heap.push { cls := .type "tuple_iterator", data := .fields #[.ref l, .int 0 0] }).objs.size = s.heap.objs.size + 1 := Heap.size_push ..
  show _ ∧ _
  rw [hz]
  have he : IsEnum ((s.heap.push { cls := .type "tuple_iterator", data := .fields #[.ref l, .int 0 0] }).push { cls := .type "enumerate", data := .fields #[.none, .bool false, .ref s.heap.objs.size, rawInt 0, .none, .none] }) (s.heap.objs.size + 1) s.heap.objs.size 0 .none := by
    have q := Heap.get?_push_size (s.heap.push { cls := .type "tuple_iterator", data := .fields #[.ref l, .int 0 0] }) (o := { cls := .type "enumerate", data := .fields #[.none, .bool false, .ref s.heap.objs.size, rawInt 0, .none, .none] }) rfl
    rw [hz] at q
    exact q
  exact ⟨⟨_, he, rfl⟩, h _ he ⟨_, Heap.get?_push_of_some _ (Heap.get?_push_size _ rfl), rfl, rfl⟩ fun b o x => Heap.get?_push_of_some _ (Heap.get?_push_of_some _ x)⟩
end
end PySem
namespace Wb
open PySem L2
/-- the tuple at a, each item with its number in a new pair -/
def IteT (K : PySem.W.Frag) (a : Addr) : It :=
  ⟨fun i H => ∃ (xs : List V) (x : V), SqT K H a xs ∧ xs[i]? = some x, fun i H v H' => ∃ T x, v = .ref T ∧ H T = none ∧ H' = L2.upd H T (.tup [.int (i : Nat), x]) ∧ ∀ xs, SqT K H a xs → xs[i]? = some x, fun i H => ∃ xs : List V, SqT K H a xs ∧ xs.length = i⟩
theorem turn_enumT {P : Program} {w : World} {K : PySem.W.Frag} {elts : List Expr} {kk : Nat} {tpos : Pos} (a e it : Addr) :
    Turn P w K (.Tuple elts kk tpos) (IteT K a) [e, it] e (fun i h => (∃ old, IsEnum h e it ((i : Nat) : Int) old) ∧ h.IsTupleIter it a i ∧ e ≠ it) where
  mem := by simp
  obj := fun i h st b hb => by
    obtain ⟨⟨old, he⟩, ⟨o, ho, hc, hd⟩, _⟩ := st
    have e' : b = e ∨ b = it := by simpa using hb
    rcases e' with z | z
    · subst z; exact ⟨_, he, fun v q => nomatch q⟩
    · subst z; exact ⟨o, ho, fun v q => by rw [hd] at q; cases q⟩
  keep := fun i h h' st k => let ⟨⟨old, he⟩, hi, hne⟩ := st; ⟨⟨old, k e (by simp) _ he⟩, hi.at fun o q => k it (by simp) o q, hne⟩
  item := by
    intro X hP hw hK hc i pins s σ H E I hf st hg
    subst hP hw hK
    obtain ⟨⟨old, he⟩, hit, hne⟩ := st
    obtain ⟨xs, x, hq, hx⟩ := hg
    obtain ⟨its, rv, p, hz⟩ := I.tuple hq
    obtain ⟨u, hu, ru⟩ := rv.get hx
    have hel : e < s.heap.objs.size := Heap.lt_size he
    have hil : it < s.heap.objs.size := by obtain ⟨_, q, _⟩ := hit; exact Heap.lt_size q
    have hai : a ≠ it := by
      rintro rfl
      obtain ⟨o1, e1, c1, _⟩ := p
      obtain ⟨o2, e2, c2, _⟩ := hit
      rw [e1] at e2
      cases e2
      rw [c1] at c2
      exact absurd (Value.type.inj c2) (by decide)
    have hae : a ≠ e := by
      rintro rfl
      obtain ⟨o1, e1, c1, _⟩ := p
      have e2 := e1.symm.trans he
      cases e2
      exact absurd (Value.type.inj c1) (by decide)
    have hii : i < its.length := (List.getElem?_eq_some_iff.mp hu).1
    have hT0 : s.heap.IsTuple a its.toArray := p
    have hef : e ∉ [it, a] := by
      intro hm
      rcases List.mem_cons.mp hm with z | z
      · exact hne z
      · exact hae (List.mem_singleton.mp z).symm
    refine wpAny_pyNext_enum_itemC (Draws.tuple (prog := X.prog) (w := X.w) (A := X.A.in1) (I.ok.hd hc) it a hai its.toArray) he ⟨hit, hT0⟩ (by simpa using hii) hne hef fun x' h' tk hx' ho hst' hT hsz hk => ?_
    obtain rfl : u = x' := by
      have q1 : its[i]? = some x' := by simpa using hx'
      rw [hu] at q1
      exact Option.some.inj q1
    have hit' := hst'.1
    refine ⟨_, rfl, wpAny_letOwnedTupleGo_enum (s := { s with heap := h', toks := tk + 1 }) ho fun h'' he' sb => ?_⟩
    have hT2 : h''.get? s.heap.objs.size = some { cls := .type "tuple", data := .seq #[.int i tk, u] } := (sb.2 _ (Nat.ne_of_gt hel)).trans hT
    have new : ObjOk X.prog X.w (L2.upd H s.heap.objs.size (.tup [.int (i : Nat), x])) h'' s.heap.objs.size (.tup [.int (i : Nat), x]) :=
      ⟨by show 2 ≤ sizeLine; decide, [.int i tk, u], .cons ⟨_, rfl⟩ (.cons ru .nil), ⟨_, hT2, rfl, _, rfl⟩⟩
    have I1 : Inv X pins σ (L2.upd H s.heap.objs.size (.tup [.int (i : Nat), x])) { s with heap := h'', toks := tk + 1 } :=
      I.turnedNew (ch := [e, it]) (fun b ob hb q => (sb.2 b (fun z => hb (by simp [z]))).trans (hk b ob (fun z => hb (by simp [z])) (fun z => hb (by simp [z])) q)) hf (Nat.le_refl _) new
    refine ⟨.ref s.heap.objs.size, _, I1, rfl, ⟨_, x, rfl, I.hok.fresh (Nat.le_refl _), rfl, fun ys hy => by rw [I.tuple_inj hy hq]; exact hx⟩, ⟨⟨u, ?_⟩, hit'.at fun o q => (sb.2 it (Ne.symm hne)).trans q, hne⟩, fun b hb => ?_⟩
    · have e1 : ((i + 1 : Nat) : Int) = (i : Int) + 1 := by omega
      rw [e1]
      exact he'
    · have hb' : b < s.heap.objs.size := by
        have e' : b = e ∨ b = it := by simpa using hb
        rcases e' with z | z
        · subst z; exact hel
        · subst z; exact hil
      rw [upd_ne (Nat.ne_of_lt hb')]
      exact (hf b hb).1
  done := by
    intro X hP hw hK hc i pins s σ H E I hf st hg
    subst hP hw hK
    obtain ⟨⟨old, he⟩, hit, hne⟩ := st
    obtain ⟨xs, hq, hx⟩ := hg
    obtain ⟨its, rv, p, hz⟩ := I.tuple hq
    obtain ⟨f0, f1, f2, f3, f4, f5⟩ := hf it (by simp)
    have hl := rv.length
    have hai : a ≠ it := by
      rintro rfl
      obtain ⟨o1, e1, c1, _⟩ := p
      obtain ⟨o2, e2, c2, _⟩ := hit
      rw [e1] at e2
      cases e2
      rw [c1] at c2
      exact absurd (Value.type.inj c2) (by decide)
    have hi : i = its.toArray.size := by rw [List.size_toArray, ← hl, hx]
    rw [hi] at hit
    exact wpAny_pyNext_enum_endD (Draws.tuple (prog := X.prog) (w := X.w) (A := X.A.in1) (I.ok.hd hc) it a hai its.toArray) he ⟨hit, p⟩ fun h' eb => ⟨rfl, I.turned (t' := s.toks) (fun b o hb q => eb b o hb q) f0 f1 f3 f4 f5⟩
  self := fun A i s Q E st h => let ⟨⟨_, he⟩, _⟩ := st; wpAny_pyIter_enum he h
def iEnumT (K : PySem.W.Frag) (ta : TA) : TI := fun σ H R => ta σ H fun vs H1 => ∃ a xs, vs = [.ref a] ∧ SqT K H1 a xs ∧ R (IteT K a) H1
theorem pi_enumT {X : Cx} {e : Expr} {ta : TA} {p pos tpos : Pos} {elts : List Expr} {kk : Nat} (hm : X.mg "enumerate" = none) (ha : PA X [e] ta) (hg : Gl X "enumerate" := by rfl) (hs : starEach [e] X.env = [(false, eval e X.env)] := by rfl) :
    PI X (.Tuple elts kk tpos) (.Call (.Name "enumerate" p) [e] [] pos) (iEnumT X.K ta) := by
  refine ⟨fun pins s σ H R I h => ?_⟩
  refine PyProof.Rows.Call_ (ld_blt I hg hm PyProof.Rows.boot_enumerate (PyProof.Rows.callWith_type1 (thn (ha.run pos pins s σ H _ I h) fun us s1 ⟨vs, H1, I1, r1, q1⟩ => ?_) hs rfl))
  obtain ⟨a, xs, ex, hq, q⟩ := q1
  subst ex
  cases r1 with
  | cons r rr =>
    cases rr
    cases r
    obtain ⟨its, rv, p', hz⟩ := I1.tuple hq
    refine wb_enumerate_tuple (items := its.toArray) p' fun h' he hit hk => wpAny_pyIter_enum he ?_
    have I2 : Inv X pins σ H1 { s1 with heap := h' } := I1.kept (t' := s1.toks) hk
    refine ⟨s1.heap.objs.size + 1, [s1.heap.objs.size + 1, s1.heap.objs.size], _, _, H1, rfl, I2, turn_enumT a (s1.heap.objs.size + 1) s1.heap.objs.size, ⟨⟨.none, he⟩, hit, Nat.succ_ne_self _⟩, fun b hb => ?_, q⟩
    have e' : b = s1.heap.objs.size + 1 ∨ b = s1.heap.objs.size := by simpa using hb
    have hle : s1.heap.objs.size ≤ b := by
      rcases e' with z | z
      · rw [z]; exact Nat.le_add_right _ _
      · rw [z]; exact Nat.le_refl _
    exact I1.fpOk hle (I1.hok.fresh hle)
theorem for_enumT {K : PySem.W.Frag} {a : Addr} {xs : List V} {g : TG} {tb : TS} {D : Ends} {σ : L2.St} {H : Hp} (Pv : Nat → L2.St → Hp → Prop) (h0 : Pv 0 σ H) (hl : ∀ i σ H, i ≤ xs.length → Pv i σ H → SqT K H a xs)
    (hs : ∀ i x T σ H, xs[i]? = some x → Pv i σ H → H T = none → g (.ref T) σ (L2.upd H T (.tup [.int (i : Nat), x])) fun σ2 H2 => tb { D with nx := Pv (i + 1), ct := Pv (i + 1), bk := D.nx } σ2 H2) (hd : ∀ σ H, Pv xs.length σ H → D.nx σ H) :
    ∃ W : Nat → Nat → L2.St → Hp → Prop, (∃ m, W 0 m σ H) ∧ ∀ i m σ H, W i m σ H →
      ((IteT K a).stop i H ∧ D.nx σ H) ∨ ((IteT K a).go i H ∧ ∃ N : L2.St → Hp → Prop, (∀ σ' H', N σ' H' → ∃ m', m' < m ∧ W (i + 1) m' σ' H') ∧ ∀ x H', (IteT K a).yld i H x H' → g x σ H' fun σ2 H2 => tb { D with nx := N, ct := N, bk := D.nx } σ2 H2) := by
  refine ⟨fun i m σ H => m = xs.length - i ∧ i ≤ xs.length ∧ Pv i σ H, ⟨xs.length, by simp, Nat.zero_le _, h0⟩, ?_⟩
  rintro i m σ H ⟨rfl, hi, p⟩
  have q := hl i σ H hi p
  by_cases hlt : i < xs.length
  · refine .inr ⟨⟨xs, xs[i], q, by simp [hlt]⟩, Pv (i + 1), fun σ' H' p' => ⟨xs.length - (i + 1), by omega, rfl, hlt, p'⟩, fun x H' y => ?_⟩
    obtain ⟨T, x', rfl, hT, rfl, hx⟩ := y
    exact hs i x' T σ H (hx xs q) p hT
  · have e : i = xs.length := by omega
    subst e
    exact .inl ⟨⟨xs, q, rfl⟩, hd σ H p⟩
end Wb

namespace Wb
open PySem L2
open PyProof.Rows (envOfC)

/-! ### the data of the law -/
abbrev Qs := List (Str × Nat)
def qD (q : Str × Nat) : NestedKey := .tup [.text q.1, .num (q.2 : Nat)]
def qsD (qs : Qs) : NestedKey := .tup (qs.map qD)
def rowD (r : List Int) : NestedKey := .tup (r.map .num)
def lotD (l : List Str) : NestedKey := .tup (l.map .text)
abbrev Node := Bool × Str
def nodeD (n : Node) : NestedKey := .tup [.text (if n.1 then "b" else "a"), .text n.2]
def idx : List Str → Str → Nat
  | [], _ => 0
  | x :: r, n => if x = n then 0 else idx r n + 1
theorem idx_lt : ∀ {l : List Str} {n : Str}, n ∈ l → idx l n < l.length
  | [], _, h => by cases h
  | x :: r, n, h => by
    unfold idx
    by_cases e : x = n
    · rw [if_pos e]; exact Nat.succ_pos _
    · rw [if_neg e, List.length_cons]
      rcases List.mem_cons.mp h with q | q
      · exact absurd q.symm e
      · have := idx_lt q; omega
theorem idx_at : ∀ {l : List Str} {n : Str}, n ∈ l → l[idx l n]? = some n
  | [], _, h => by cases h
  | x :: r, n, h => by
    unfold idx
    by_cases e : x = n
    · rw [if_pos e, e]; rfl
    · rw [if_neg e, List.getElem?_cons_succ]
      rcases List.mem_cons.mp h with q | q
      · exact absurd q.symm e
      · exact idx_at q
theorem idx_first : ∀ {l : List Str} {n : Str} {m : Nat} {z : Str}, m < idx l n → l[m]? = some z → z ≠ n
  | [], _, _, _, _, h => by simp at h
  | x :: r, n, m, z, h, hz => by
    unfold idx at h
    by_cases e : x = n
    · rw [if_pos e] at h; omega
    · rw [if_neg e] at h
      cases m with
      | zero =>
        have q : x = z := Option.some.inj hz
        rw [← q]; exact e
      | succ m => exact idx_first (l := r) (n := n) (m := m) (by omega) (by simpa using hz)
/-- the value of a node -/
def valN (qs : Qs) (n : Node) (lot : List Str) (truth : List Int) : Int :=
  if n.1 = true then (if inV (.str n.2) (lot.map V.str) = true then 1 else 0) else truth.getD (idx (qs.map (·.1)) n.2) 0

/-- a row mapped so far -/
def mapP {α : Type} (L : List α) (f : α → NestedKey) (i : Nat) (ds : List NestedKey) : Prop := ds = (L.take i).map f
theorem mapP.zero {α : Type} {L : List α} {f : α → NestedKey} : mapP L f 0 [] := by unfold mapP; simp
theorem mapP.step {α : Type} {L : List α} {f : α → NestedKey} {i : Nat} {ds : List NestedKey} {x : α} (p : mapP L f i ds) (h : L[i]? = some x) : mapP L f (i + 1) (ds ++ [f x]) := by
  unfold mapP at p ⊢
  rw [p, List.take_add_one, h]
  simp
theorem mapP.done {α : Type} {L : List α} {f : α → NestedKey} {n : Nat} {ds : List NestedKey} (p : mapP L f n ds) (h : L.length ≤ n) : ds = L.map f := by
  unfold mapP at p
  rw [p, List.take_of_length_le h]

section
variable {K : PySem.W.Frag} {H : Hp}
theorem nkAll_map {α : Type} (f : α → NestedKey) {L : List α} {xs : List V} (h : NkAll K H xs (L.map f)) {i : Nat} {x : V} (hx : xs[i]? = some x) : ∃ d, L[i]? = some d ∧ Nk K H x (f d) := by
  obtain ⟨e, he, hn⟩ := NkAll.at' h hx
  rw [List.getElem?_map] at he
  obtain ⟨d, hd, rfl⟩ := Option.map_eq_some_iff.mp he
  exact ⟨d, hd, hn⟩
theorem q_at {v : V} {qs : Qs} (h : Nk K H v (qsD qs)) : ∃ (a : Addr) (xs : List V), v = .ref a ∧ SqT K H a xs ∧ xs.length = qs.length ∧ ∀ (i : Nat) (x : V), xs[i]? = some x → ∃ q : Str × Nat, qs[i]? = some q ∧ ∃ p : Addr, x = .ref p ∧ SqT K H p [.str q.1, .int (q.2 : Nat)] := by
  obtain ⟨a, xs, rfl, h1, h2⟩ := h.inv_tup
  refine ⟨a, xs, rfl, h1, by rw [h2.length, List.length_map], fun i x hx => ?_⟩
  obtain ⟨q, hq, hn⟩ := nkAll_map qD h2 hx
  obtain ⟨p, u, w, rfl, h3, h4, h5⟩ := Nk.inv_tup2 hn
  rw [h4.inv_text, h5.inv_num] at h3
  exact ⟨q, hq, p, rfl, h3⟩
theorem node_at {v : V} {n : Node} (h : Nk K H v (nodeD n)) : ∃ p, v = .ref p ∧ SqT K H p [.str (if n.1 then "b" else "a"), .str n.2] := by
  obtain ⟨p, u, w, rfl, h3, h4, h5⟩ := Nk.inv_tup2 h
  rw [h4.inv_text, h5.inv_text] at h3
  exact ⟨p, rfl, h3⟩
theorem row_at {v : V} {r : List Int} (h : Nk K H v (rowD r)) : ∃ p, v = .ref p ∧ SqT K H p (r.map V.int) := by
  obtain ⟨p, xs, rfl, h1, h2⟩ := h.inv_tup
  rw [nkAll_ints h2] at h1
  exact ⟨p, rfl, h1⟩
theorem lot_at {v : V} {r : List Str} (h : Nk K H v (lotD r)) : ∃ p, v = .ref p ∧ SqT K H p (r.map V.str) := by
  obtain ⟨p, xs, rfl, h1, h2⟩ := h.inv_tup
  rw [nkAll_texts h2] at h1
  exact ⟨p, rfl, h1⟩
theorem row_nk {p : Addr} {r : List Int} (h : SqT K H p (r.map V.int)) : Nk K H (.ref p) (rowD r) := .tup h (nk_ints r)
theorem lot_nk {p : Addr} {r : List Str} (h : SqT K H p (r.map V.str)) : Nk K H (.ref p) (lotD r) := .tup h (nk_texts r)
theorem flat_strs (l : List Str) : (l.map V.str).all flatV = true := by simp [flatV]
theorem strs_at {l : List Str} {i : Nat} {z : V} (h : (l.map V.str)[i]? = some z) : ∃ x, l[i]? = some x ∧ z = .str x := by
  rw [List.getElem?_map] at h
  obtain ⟨x, hx, rfl⟩ := Option.map_eq_some_iff.mp h
  exact ⟨x, hx, rfl⟩
theorem ab_ne : ¬ (("a" : Str) = "b") := by decide +kernel
end

section
variable {P : Program} {w : World} {K : PySem.W.Frag} {mg : Str → Option Value} {base : Heap}
/-! ### _law_value, _law_values -/
/-- what is asked of a node, a lot and a truth -/
def ValOk (qs : Qs) (n : Node) (truth : List Int) : Prop := n.2 ∈ qs.map (·.1) ∧ truth.length = qs.length ∧ qs.length ≤ 1000
def spValue (K : PySem.W.Frag) : Sp := fun vs H Q _ => ∃ (q nd lo tr : V) (qs : Qs) (n : Node) (lot : List Str) (truth : List Int), vs = [q, nd, lo, tr] ∧ Nk K H q (qsD qs) ∧ Nk K H nd (nodeD n) ∧ Nk K H lo (lotD lot) ∧ Nk K H tr (rowD truth) ∧ ValOk qs n truth ∧
  ∀ H', Kp [] H H' → Q (.int (valN qs n lot truth)) H'
abbrev pValue : List Str := ["_law_questions_here", "_law_node", "_law_lot", "_law_truth"]
abbrev nValue : List Str := ["_law_questions_here", "_law_node", "_law_lot", "_law_truth", "_law_name", "_law_many"]
theorem scValue : FnScope nValue pValue (defScope sValue) := ⟨rfl, rfl, rfl, by decide +kernel, rfl, by decide +kernel, by decide +kernel⟩
theorem ok_value (D : Df K mg "_law_value" sValue pValue) : Cal P w K mg base 1 "_law_value" pValue (spValue K) := by
  refine cal_mk D scValue (fun vs H Q E h => ?_) (fun f cdv A outer s H vs Q E hr h => ?_)
  · obtain ⟨q, nd, lo, tr, qs, n, lot, truth, rfl, _⟩ := h
    rfl
  · obtain ⟨q, nd, lo, tr, qs, n, lot, truth, rfl, hq, hn, hlo, htr, ⟨hm, htl, hql⟩, k⟩ := h
    refine ⟨_, pss_cons (ps_if (pt_cmpR op_eq (pe_ix ix_tup (pv 1) pe_int (fun _ _ => rfl)) pe_str (nomark _)) (pss_one (ps_ret (pe_ifExp (pt_cmpR op_in_seq (pe_ix ix_tup (pv 1) pe_int (fun _ _ => rfl)) (pv 2) rfl) pe_int pe_int))) pss_nil)
      (pss_one (ps_ret (pe_ix ix_tup (pv 3) (pe_bm PySem.F.plainAttrs_list PySem.F.slot_list_index PySem.F.type_list_index mt_index
        (pe_lc (own := [("_law_name", 4), ("_law_many", 5)]) (g := gTup K 2 (gCons (gName 4) (gCons (gName 5) gNil))) rfl scValue.nd (pi_tup (pv 0)) (blkOk_by (own := [("_law_name", 4), ("_law_many", 5)]) (N := nValue) (sc := defScope sValue) (by decide +kernel))
          (fun _ _ _ _ _ => pg_tup rfl (pgs_cons (pg_name (i := 4) scValue.nd rfl (Or.inl rfl)) (pgs_cons (pg_name (i := 5) scValue.nd rfl (Or.inl rfl)) pgs_nil))) (fun _ _ _ _ _ => pts_nil) (fun _ _ _ _ _ => pv 4))
        (pa_cons (pe_ix ix_tup (pv 1) pe_int (fun _ _ => rfl)) pa_nil)) (fun _ _ => rfl)))), ?_⟩
    obtain ⟨pn, rfl, hpn⟩ := node_at hn
    obtain ⟨pl, rfl, hpl⟩ := lot_at hlo
    obtain ⟨pt, rfl, hpt⟩ := row_at htr
    obtain ⟨pq, xs, rfl, hpq, hxl, hxq⟩ := q_at hq
    refine ⟨_, rfl, pn, _, 0, _, rfl, rfl, hpn, at_0, rfl, _, rfl, ?_⟩
    cases hb : n.1 with
    | true =>
      refine iteBT (decide_eq_true (by rfl)) ⟨_, rfl, pn, _, 1, _, rfl, rfl, hpn, at_1, _, rfl, pl, _, rfl, .inr hpl, rfl, flat_strs lot, _, rfl, ?_⟩
      have e : valN qs n lot truth = if inV (.str n.2) (lot.map V.str) = true then 1 else 0 := by unfold valN; rw [if_pos hb]
      have k' := k H (Kp.refl H)
      rw [e] at k'
      show if (inV (.str n.2) (lot.map V.str)) = true then Q (.int 1) H else Q (.int 0) H
      cases hi : inV (.str n.2) (lot.map V.str) with
      | true => rw [hi] at k'; exact k'
      | false => rw [hi] at k'; exact k'
    | false =>
      refine iteBF (decide_eq_false (fun z => ab_ne (V.str.inj z))) ?_
      refine ⟨_, rfl, _, rfl, pq, rfl, ⟨_, hpq⟩, fun D1 hD1 => ?_⟩
      refine lc_dataT (K := K) (S := []) (J := J0) (Pd := mapP qs fun q => .text q.1) (xs := xs) hpq (by simp) hD1 hJ0 trivial mapP.zero (by omega) (fun i x hx => ?_) fun H1 acc ds k1 _ h1 nk pd hdl => ?_
      · intro H2 acc ds R N k2 _ h2 nk pd hdl hR hN
        obtain ⟨q, hq2, p, rfl, hp⟩ := hxq i x hx
        exact ⟨p, _, rfl, SqT.tk k2.tk hp, rfl, _, _, rfl, _, _, rfl, rfl, rfl, tYes_el ⟨_, rfl, hR _ _ ⟨Kp.refl _, trivial, _, .text _, pd.step hq2⟩⟩⟩
      · obtain rfl := pd.done (by omega)
        have kD := Kp.drop hD1 k1
        have nk' : NkAll K H1 acc ((qs.map (·.1)).map .text) := by rw [List.map_map]; exact nk
        obtain rfl := nkAll_texts nk'
        have hlt := idx_lt hm
        rw [List.length_map] at hlt
        refine ⟨.inl ⟨rfl, _, SqL.of h1⟩, _, rfl, pn, _, 1, _, rfl, rfl, SqT.tk kD.tk hpn, at_1, D1, _, .str n.2, idx (qs.map (·.1)) n.2, .str n.2, rfl, rfl, SqL.of h1, rfl, flat_strs _, ?_, ?_, fun m z hm' hz => ?_, ?_⟩
        · rw [List.getElem?_map, idx_at hm]; rfl
        · show (n.2 == n.2) = true
          exact beq_self_eq_true _
        · obtain ⟨x, hx, rfl⟩ := strs_at hz
          show (x == n.2) = false
          exact beq_eq_false_iff_ne.mpr (idx_first hm' hx)
        · have hti : idx (qs.map (·.1)) n.2 < truth.length := by omega
          have e : valN qs n lot truth = truth[idx (qs.map (·.1)) n.2] := by
            unfold valN
            rw [if_neg (by rw [hb]; exact Bool.false_ne_true), List.getD_eq_getElem?_getD, List.getElem?_eq_getElem hti]
            rfl
          refine ⟨pt, _, _, .int (truth[idx (qs.map (·.1)) n.2]), rfl, rfl, SqT.tk kD.tk hpt, atI_nat ?_, ?_⟩
          · rw [List.getElem?_map, List.getElem?_eq_getElem hti]; rfl
          · rw [← e]
            exact k H1 kD
/-- the values of some nodes -/
def valsD (qs : Qs) (ns : List Node) (lot : List Str) (truth : List Int) : NestedKey := rowD (ns.map fun n => valN qs n lot truth)
def spValues (K : PySem.W.Frag) : Sp := fun vs H Q _ => ∃ (q nd lo tr : V) (qs : Qs) (ns : List Node) (lot : List Str) (truth : List Int), vs = [q, nd, lo, tr] ∧ Nk K H q (qsD qs) ∧ Nk K H nd (.tup (ns.map nodeD)) ∧ Nk K H lo (lotD lot) ∧ Nk K H tr (rowD truth) ∧ (∀ n ∈ ns, ValOk qs n truth) ∧ ns.length ≤ 1000 ∧
  ∀ v H', Kp [] H H' → Nk K H' v (valsD qs ns lot truth) → Q v H'
abbrev pValues : List Str := ["_law_questions_here", "_law_nodes_here", "_law_lot", "_law_truth"]
abbrev nValues : List Str := ["_law_questions_here", "_law_nodes_here", "_law_lot", "_law_truth", "_law_node"]
theorem scValues : FnScope nValues pValues (defScope sValues) := ⟨rfl, rfl, rfl, by decide +kernel, rfl, by decide +kernel, by decide +kernel⟩
theorem ok_values (D : Df K mg "_law_values" sValues pValues) (T : Txt mg) (C : Cal P w K mg base 1 "_law_value" pValue (spValue K)) : Cal P w K mg base 2 "_law_values" pValues (spValues K) := by
  refine cal_mk D scValues (fun vs H Q E h => ?_) (fun f cdv A outer s H vs Q E hr h => ?_)
  · obtain ⟨q, nd, lo, tr, qs, n, lot, truth, rfl, _⟩ := h
    rfl
  · obtain ⟨q, nd, lo, tr, qs, ns, lot, truth, rfl, hq, hn, hlo, htr, hok, hnl, k⟩ := h
    refine ⟨_, pss_one (ps_ret (w_tuple T.tuple (pe_lc (own := [("_law_node", 4)]) (g := gName 4) rfl scValues.nd (pi_tup (pv 1)) (blkOk_by (own := [("_law_node", 4)]) (N := nValues) (sc := defScope sValues) (by decide +kernel))
          (fun _ _ _ _ _ => pg_name (i := 4) scValues.nd rfl (Or.inl rfl)) (fun _ _ _ _ _ => pts_nil) (fun _ _ _ _ _ => pe_cal C hr (pa_cons (pv 0) (pa_cons (pv 4) (pa_cons (pv 2) (pa_cons (pv 3) pa_nil)))))))), ?_⟩
    obtain ⟨pn, xs, rfl, hpn, hxs⟩ := hn.inv_tup
    have hxl : xs.length = ns.length := by rw [hxs.length, List.length_map]
    refine ⟨_, rfl, pn, rfl, ⟨_, hpn⟩, fun D1 hD1 => ?_⟩
    refine lc_dataT (K := K) (S := []) (J := J0) (Pd := mapP ns fun n => .num (valN qs n lot truth)) (xs := xs) hpn (by simp) hD1 hJ0 trivial mapP.zero (by omega) (fun i x hx => ?_) fun H1 acc ds k1 _ h1 nk pd hdl => ?_
    · intro H2 acc ds R N k2 _ h2 nk pd hdl hR hN
      obtain ⟨n, hn, hx2⟩ := nkAll_map nodeD hxs hx
      refine ⟨rfl, tYes_el ⟨_, rfl, _, rfl, _, rfl, _, rfl, q, x, lo, tr, qs, n, lot, truth, rfl, hq.tk k2.tk, hx2.tk k2.tk, hlo.tk k2.tk, htr.tk k2.tk, hok n (List.mem_of_getElem? hn), fun H3 k3 => hR _ _ ⟨k3, trivial, _, .num _, pd.step hn⟩⟩⟩
    · obtain rfl := pd.done (by omega)
      have kD := Kp.drop hD1 k1
      refine ⟨D1, _, rfl, .inl ⟨SqL.of h1, fun p hp => k _ _ (kD.trans (Kp.new hp)) ?_⟩⟩
      have e : valsD qs ns lot truth = .tup (ns.map fun n => .num (valN qs n lot truth)) := by unfold valsD rowD; rw [List.map_map]; rfl
      rw [e]
      exact Nk.made nk hp
end
end Wb

namespace Wb
open PySem L2
open PyProof.Rows (envOfC)

/-- the two classes, as they stand behind the top -/
structure Cl (K : PySem.W.Frag) (CF CB : Addr) : Prop where
  clF : Cls K CF
  nQ : NoAttr K CF "questions"
  clB : Cls K CB
  nF : NoAttr K CB "form"
  nS : NoAttr K CB "shares"
/-- ZERO, as it stands behind the top -/
def Zr (K : PySem.W.Frag) (mg : Str → Option Value) : Prop := ∃ z, mg "ZERO" = some (.ref z) ∧ ∀ H, Nk K H (.ref z) (.tup [.num 0, .num 1])
def FormAt (C : Addr) (H : Hp) (f : Addr) (q : V) : Prop := ∃ dx fs, H f = some (.ins C dx fs) ∧ fs.lookup ("questions" : Str) = some q
def BookAt (C : Addr) (H : Hp) (b : Addr) (f s : V) : Prop := ∃ dx fs, H b = some (.ins C dx fs) ∧ fs.lookup ("form" : Str) = some f ∧ fs.lookup ("shares" : Str) = some s
theorem FormAt.kp {C : Addr} {H H' : Hp} {f : Addr} {q : V} {S : List Addr} (h : FormAt C H f q) (k : Kp S H H') (hf : f ∉ S) : FormAt C H' f q := let ⟨dx, fs, h1, h2⟩ := h; ⟨dx, fs, k.st _ _ hf h1, h2⟩
theorem BookAt.kp {C : Addr} {H H' : Hp} {b : Addr} {f s : V} {S : List Addr} (h : BookAt C H b f s) (k : Kp S H H') (hb : b ∉ S) : BookAt C H' b f s := let ⟨dx, fs, h1, h2⟩ := h; ⟨dx, fs, k.st _ _ hb h1, h2⟩

section
variable {P : Program} {w : World} {K : PySem.W.Frag} {mg : Str → Option Value} {base : Heap} {CF CB : Addr}
/-! ### place_of -/
def spPlaceOf (K : PySem.W.Frag) (CF : Addr) : Sp := fun vs H Q _ => ∃ (f : Addr) (q : V) (qs : Qs) (n : Str), vs = [.ref f, .str n] ∧ FormAt CF H f q ∧ Nk K H q (qsD qs) ∧ n ∈ qs.map (·.1) ∧ qs.length ≤ 1000 ∧ ∀ H', Kp [] H H' → Q (.int ((idx (qs.map (·.1)) n : Nat) : Int)) H'
abbrev pPlaceOf : List Str := ["form", "name"]
abbrev nPlaceOf : List Str := ["form", "name", "at", "pair"]
theorem scPlaceOf : FnScope nPlaceOf pPlaceOf (defScope sPlaceOf) := ⟨rfl, rfl, rfl, by decide +kernel, rfl, by decide +kernel, by decide +kernel⟩
theorem ok_placeOf (D : Df K mg "place_of" sPlaceOf pPlaceOf) (T : Txt mg) (c : Cl K CF CB) : Cal P w K mg base 1 "place_of" pPlaceOf (spPlaceOf K CF) := by
  refine cal_mk D scPlaceOf (fun vs H Q E h => ?_) (fun f cdv A outer s H vs Q E hr h => ?_)
  · obtain ⟨f, q, qs, n, rfl, _⟩ := h
    rfl
  · obtain ⟨f, q, qs, n, rfl, hF, hq, hm, hql, k⟩ := h
    refine ⟨_, pss_cons (ps_for PassesOwn.never rfl (pi_enumT T.enumerate (pa_cons (pe_fld (pv 0) rfl) pa_nil)) (pg_tup rfl (pgs_cons (pg_name (i := 2) scPlaceOf.nd rfl (Or.inl rfl)) (pgs_cons (pg_name (i := 3) scPlaceOf.nd rfl (Or.inl rfl)) pgs_nil)))
        (pss_one (ps_if (pt_cmpR op_eq (pe_ix ix_tup (pv 3) pe_int (fun _ _ => rfl)) (pv 1) (nomark _)) (pss_one (ps_ret (pv 2))) pss_nil)))
      (pss_one ps_never), ?_⟩
    obtain ⟨dx, fs, hf, hl⟩ := hF
    obtain ⟨pq, xs, rfl, hpq, hxl, hxq⟩ := q_at hq
    have hlt := idx_lt hm
    rw [List.length_map] at hlt
    refine ⟨_, rfl, f, CF, dx, _, _, rfl, hf, c.clF, c.nQ, hl, pq, xs, rfl, hpq, for_enumT (K := K) (a := pq) (xs := xs) (fun i σ H' => ∃ u v : Option V, σ = [some (.ref f), some (.str n), u, v] ∧ Kp [] H H' ∧ i ≤ idx (qs.map (·.1)) n)
      ⟨none, none, rfl, Kp.refl H, Nat.zero_le _⟩ (fun i σ H' _ ⟨_, _, _, kp, _⟩ => SqT.tk kp.tk hpq) ?_ ?_⟩
    · rintro i x T σ H' hx ⟨u, v, rfl, kp, hi⟩ hT
      obtain ⟨⟨n', m⟩, hq2, p, rfl, hp⟩ := hxq i x hx
      have kp2 := kp.trans (Kp.new (S := []) hT (o := .tup [.int (i : Nat), .ref p]))
      refine ⟨T, _, rfl, SqT.of upd_same, rfl, _, _, rfl, _, _, rfl, rfl, _, rfl, p, _, 0, .str n', rfl, rfl, SqT.tk kp2.tk hp, at_0, _, rfl, rfl, _, rfl, ?_⟩
      have hn' : (qs.map (·.1))[i]? = some n' := by rw [List.getElem?_map, hq2]; rfl
      by_cases e : n' = n
      · refine iteBT (decide_eq_true (by rw [e])) ⟨_, rfl, ?_⟩
        have ei : i = idx (qs.map (·.1)) n := by
          rcases Nat.lt_or_ge i (idx (qs.map (·.1)) n) with q | q
          · exact absurd e (idx_first q hn')
          · omega
        have k' := k _ kp2
        rw [← ei] at k'
        exact k'
      · refine iteBF (decide_eq_false (fun z => e (V.str.inj z))) ⟨_, _, rfl, kp2, ?_⟩
        have h2 := idx_at hm
        rcases Nat.lt_or_ge i (idx (qs.map (·.1)) n) with q | q
        · exact q
        · have ei : i = idx (qs.map (·.1)) n := by omega
          rw [← ei, hn'] at h2
          exact absurd (Option.some.inj h2) e
    · rintro σ H' ⟨u, v, rfl, kp, hi⟩
      omega
/-! ### value_in -/
def spValueIn (K : PySem.W.Frag) (CF : Addr) : Sp := fun vs H Q _ => ∃ (f : Addr) (q nd lo tr : V) (qs : Qs) (n : Node) (lot : List Str) (truth : List Int), vs = [.ref f, nd, lo, tr] ∧ FormAt CF H f q ∧ Nk K H q (qsD qs) ∧ Nk K H nd (nodeD n) ∧ Nk K H lo (lotD lot) ∧ Nk K H tr (rowD truth) ∧ ValOk qs n truth ∧
  ∀ H', Kp [] H H' → Q (.int (valN qs n lot truth)) H'
abbrev pValueIn : List Str := ["form", "node", "lot", "truth"]
theorem scValueIn : FnScope pValueIn pValueIn (defScope sValueIn) := ⟨rfl, rfl, rfl, by decide +kernel, rfl, by decide +kernel, by decide +kernel⟩
theorem ba_ne : ¬ (("b" : Str) = "a") := by decide +kernel
theorem ok_valueIn (D : Df K mg "value_in" sValueIn pValueIn) (C : Cal P w K mg base 1 "place_of" pPlaceOf (spPlaceOf K CF)) : Cal P w K mg base 2 "value_in" pValueIn (spValueIn K CF) := by
  refine cal_mk D scValueIn (fun vs H Q E h => ?_) (fun f cdv A outer s H vs Q E hr h => ?_)
  · obtain ⟨f, q, nd, lo, tr, qs, n, lot, truth, rfl, _⟩ := h
    rfl
  · obtain ⟨f, q, nd, lo, tr, qs, n, lot, truth, rfl, hF, hq, hn, hlo, htr, ⟨hm, htl, hql⟩, k⟩ := h
    refine ⟨_, pss_cons (ps_if (pt_cmpR op_eq (pe_ix ix_tup (pv 1) pe_int (fun _ _ => rfl)) pe_str (nomark _)) (pss_one (ps_ret (pe_ix ix_tup (pv 3) (pe_cal C hr (pa_cons (pv 0) (pa_cons (pe_ix ix_tup (pv 1) pe_int (fun _ _ => rfl)) pa_nil))) (fun _ _ => rfl)))) pss_nil)
      (pss_one (ps_ret (pe_ifExp (pt_cmpR op_in_seq (pe_ix ix_tup (pv 1) pe_int (fun _ _ => rfl)) (pv 2) rfl) pe_int pe_int))), ?_⟩
    obtain ⟨pn, rfl, hpn⟩ := node_at hn
    obtain ⟨pl, rfl, hpl⟩ := lot_at hlo
    obtain ⟨pt, rfl, hpt⟩ := row_at htr
    refine ⟨_, rfl, pn, _, 0, _, rfl, rfl, hpn, at_0, rfl, _, rfl, ?_⟩
    cases hb : n.1 with
    | false =>
      refine iteBT (decide_eq_true (by rfl)) ⟨_, rfl, _, rfl, _, rfl, pn, _, 1, _, rfl, rfl, hpn, at_1, f, q, qs, n.2, rfl, hF, hq, hm, hql, fun H' kp => ?_⟩
      have hlt := idx_lt hm
      rw [List.length_map] at hlt
      have hti : idx (qs.map (·.1)) n.2 < truth.length := by omega
      have e : valN qs n lot truth = truth[idx (qs.map (·.1)) n.2] := by
        unfold valN
        rw [if_neg (by rw [hb]; exact Bool.false_ne_true), List.getD_eq_getElem?_getD, List.getElem?_eq_getElem hti]
        rfl
      refine ⟨pt, _, _, .int (truth[idx (qs.map (·.1)) n.2]), rfl, rfl, SqT.tk kp.tk hpt, atI_nat ?_, ?_⟩
      · rw [List.getElem?_map, List.getElem?_eq_getElem hti]; rfl
      · rw [← e]
        exact k H' kp
    | true =>
      refine iteBF (decide_eq_false (fun z => ba_ne (V.str.inj z))) ?_
      refine ⟨_, rfl, pn, _, 1, _, rfl, rfl, hpn, at_1, _, rfl, pl, _, rfl, .inr hpl, rfl, flat_strs lot, _, rfl, ?_⟩
      have e : valN qs n lot truth = if inV (.str n.2) (lot.map V.str) = true then 1 else 0 := by unfold valN; rw [if_pos hb]
      have k' := k H (Kp.refl H)
      rw [e] at k'
      show if (inV (.str n.2) (lot.map V.str)) = true then Q (.int 1) H else Q (.int 0) H
      cases hi : inV (.str n.2) (lot.map V.str) with
      | true => rw [hi] at k'; exact k'
      | false => rw [hi] at k'; exact k'
end
end Wb

namespace Wb
open PySem L2
open PyProof.Rows (envOfC)
open PySem.W (alike alikeAll AllAlike)

/-! ### sums by keys, as data -/
def gkv (t : Nat) (g : List (NestedKey × Nat)) : List (NestedKey × NestedKey) := g.map fun p => (p.1, frD p.2 t)
theorem look_gkv (t : Nat) (g : List (NestedKey × Nat)) (k : NestedKey) : look (gkv t g) k = (look g k).map fun n => frD n t := look_map (fun _ n => frD n t) k g
theorem put_gkv (t : Nat) (g : List (NestedKey × Nat)) (k : NestedKey) (n : Nat) : put (gkv t g) k (frD (val g k + n) t) = gkv t (addTo g k n) := put_map (fun _ n => frD n t) k (val g k + n) g
theorem gkv_keys (t : Nat) (g : List (NestedKey × Nat)) : (gkv t g).map (·.1) = g.map (·.1) := by unfold gkv; rw [List.map_map]; rfl
theorem gkv_len (t : Nat) (g : List (NestedKey × Nat)) : (gkv t g).length = g.length := List.length_map _
theorem get_gkv {t : Nat} (ht : 0 < t) (g : List (NestedKey × Nat)) (k : NestedKey) : (look (gkv t g) k).getD (.tup [.num 0, .num 1]) = frD (val g k) t := by
  rw [look_gkv]
  unfold val
  cases look g k with
  | none => exact (frD_zero ht).symm
  | some n => rfl
theorem mem_le_tot : ∀ {g : List (NestedKey × Nat)} {p : NestedKey × Nat}, p ∈ g → p.2 ≤ tot g
  | [], _, h => by cases h
  | q :: g, p, h => by
    unfold tot
    rw [List.map_cons, List.sum_cons]
    rcases List.mem_cons.mp h with e | h
    · rw [e]; omega
    · have := mem_le_tot h; unfold tot at this; omega
theorem val_le_tot (g : List (NestedKey × Nat)) (k : NestedKey) : val g k ≤ tot g := by
  unfold val
  cases h : look g k with
  | none => exact Nat.zero_le _
  | some n => exact mem_le_tot (look_mem h)
theorem tot_take_le (xs : List (NestedKey × Nat)) (i : Nat) : tot (xs.take i) ≤ tot xs := by
  unfold tot
  rw [List.map_take]
  exact sum_take_le _ i
theorem gat_take_succ {xs : List (NestedKey × Nat)} {i : Nat} {p : NestedKey × Nat} (h : xs[i]? = some p) : gat (xs.take (i + 1)) = addTo (gat (xs.take i)) p.1 p.2 := by
  rw [List.take_add_one, h]
  exact gat_snoc _ _
theorem fr_gt (a t : Nat) (ht : 0 < t) : (0 < (((fr a t).1 : Nat) : Int)) ↔ 0 < a := by
  constructor
  · intro h
    rcases Nat.eq_zero_or_pos a with e | e
    · rw [e, fr_zero ht] at h
      simp at h
    · exact e
  · intro h
    have := fr_pos1 (t := t) h
    omega
/-- what is asked of the keys -/
structure KeysOk (prs : List (NestedKey × Nat)) : Prop where
  al : AllAlike (((gat prs).map (·.1)).map NestedKey.data)
  ne : NeTup ((gat prs).map (·.1))
  dp : ∀ p ∈ prs, p.1.depth ≤ 8
  tp : ∀ p ∈ prs, ∃ ds, p.1 = .tup ds
def prD (t : Nat) (p : NestedKey × Nat) : NestedKey := .tup [p.1, frD p.2 t]
/-- the keys of a sum above 0, in order -/
noncomputable def outs (prs : List (NestedKey × Nat)) : List NestedKey := (srt ((gat prs).map (·.1))).filter fun k => decide (0 < val (gat prs) k)
noncomputable def outD (prs : List (NestedKey × Nat)) (t : Nat) : List NestedKey := (outs prs).map fun k => prD t (k, val (gat prs) k)
def filtP {α : Type} (L : List α) (p : α → Bool) (f : α → NestedKey) (i : Nat) (ds : List NestedKey) : Prop := ds = ((L.take i).filter p).map f
section
variable {α : Type} {L : List α} {p : α → Bool} {f : α → NestedKey} {i : Nat} {ds : List NestedKey} {x : α}
theorem filtP.zero : filtP L p f 0 [] := by unfold filtP; simp
theorem filtP.keep (q : filtP L p f i ds) (h : L[i]? = some x) (hp : p x = true) : filtP L p f (i + 1) (ds ++ [f x]) := by
  unfold filtP at q ⊢
  rw [q, List.take_add_one, h, List.filter_append]
  simp [hp]
theorem filtP.skip (q : filtP L p f i ds) (h : L[i]? = some x) (hp : p x = false) : filtP L p f (i + 1) ds := by
  unfold filtP at q ⊢
  rw [q, List.take_add_one, h, List.filter_append]
  simp [hp]
theorem filtP.done {n : Nat} (q : filtP L p f n ds) (h : L.length ≤ n) : ds = (L.filter p).map f := by
  unfold filtP at q
  rw [q, List.take_of_length_le h]
end
theorem srt_mem {g : List (NestedKey × Nat)} {i : Nat} {k : NestedKey} (h : (srt (g.map (·.1)))[i]? = some k) : k ∈ g.map (·.1) := (srt_perm _).mem_iff.mp (List.mem_of_getElem? h)
theorem look_val {g : List (NestedKey × Nat)} {k : NestedKey} (h : k ∈ g.map (·.1)) : look g k = some (val g k) := by
  obtain ⟨v, hv⟩ := look_isSome h
  unfold val
  rw [hv]
  rfl

/-! the same rules with the fragment named: for the turns of a comprehension -/
theorem pe_ngetK {X : Cx} {o i : Expr} {pos : Pos} {td ty : TE} {P : Program} {w : World} {K : PySem.W.Frag} (ho : PE X o td) (hi : PE X i ty) (hs : NoSl i) (hP : X.prog = P) (hw : X.w = w) (hK : X.K = K) (hu : X.A.units + 64 < cLine) : PE X (.Subscript o i pos) (tNGet P w K td ty) := by
  subst hP hw hK
  exact pe_nget hu ho hi hs
theorem ix_tupK {X : Cx} {K : PySem.W.Frag} (hK : X.K = K) : IxR X (rIxT K) := by
  subst hK
  exact ix_tup
section
variable {P : Program} {w : World} {K : PySem.W.Frag} {mg : Str → Option Value} {base : Heap}
/-! ### _law_gathered -/
def spGathered (K : PySem.W.Frag) : Sp := fun vs H Q _ => ∃ (l : Addr) (xs : List V) (prs : List (NestedKey × Nat)) (t : Nat), vs = [.ref l] ∧ SqL K H l xs ∧ NkAll K H xs (prs.map (prD t)) ∧ 0 < t ∧ t ≤ big ∧ tot prs ≤ big ∧ KeysOk prs ∧ prs.length ≤ 1000 ∧
  ∀ l' ys H', H l' = none → Kp [] H H' → H' l' = some (.lst ys) → NkAll K H' ys (outD prs t) → Q (.ref l') H'
abbrev pGathered : List Str := ["_law_pairs"]
abbrev nGathered : List Str := ["_law_pairs", "_law_sums", "_law_key", "_law_share"]
theorem scGathered : FnScope nGathered pGathered (defScope sGathered) := ⟨rfl, rfl, rfl, by decide +kernel, rfl, by decide +kernel, by decide +kernel⟩
theorem pr_at {H : Hp} {v : V} {p : NestedKey × Nat} {t : Nat} (h : Nk K H v (prD t p)) : ∃ a x y, v = .ref a ∧ SqT K H a [x, y] ∧ Nk K H x p.1 ∧ Nk K H y (frD p.2 t) := Nk.inv_tup2 h
theorem ok_gathered (D : Df K mg "_law_gathered" sGathered pGathered) (T : Txt mg) (C : Cal P w K mg base 3 "_law_plus" pPlusL (spPlus K)) : Cal P w K mg base 4 "_law_gathered" pGathered (spGathered K) := by
  refine cal_mk D scGathered (fun vs H Q E h => ?_) (fun f cdv A outer s H vs Q E hr h => ?_)
  · obtain ⟨l, xs, prs, t, rfl, _⟩ := h
    rfl
  · obtain ⟨l, xs, prs, t, rfl, hl, nk, t0, t1, tb, ok, pl, k⟩ := h
    have hu := hr.units
    have hu2 : (A.deeper (envOfC "_law_gathered" (defScope sGathered) s.heap.objs.size f cdv)).units + 128 < cLine := by have := hr.un; omega
    refine ⟨_, pss_cons (ps_set (i := 1) scGathered.nd rfl (Or.inr rfl) pe_nnew)
      (pss_cons (ps_for PassesOwn.never rfl (pi_list (pv 0)) (pg_tup rfl (pgs_cons (pg_name (i := 2) scGathered.nd rfl (Or.inl rfl)) (pgs_cons (pg_name (i := 3) scGathered.nd rfl (Or.inl rfl)) pgs_nil)))
        (pss_one (ps_nput hu (pv 1) (pv 2) (pe_cal C hr (pa_cons (pe_nget2 hu (pv 1) (pv 2) (pe_tup (pa_cons pe_int (pa_cons pe_int pa_nil))) ⟨rfl, rfl, rfl, rfl⟩) (pa_cons (pv 3) pa_nil))) rfl)))
      (pss_one (ps_ret (pe_lc (own := [("_law_key", 2)]) (g := gName 2) rfl scGathered.nd (pi_list (pe_callB (cr_sortedN rfl hu2) rfl T.sorted PyProof.Rows.boot_sorted (pa_cons (pe_nkeys (pv 1)) pa_nil)))
        (blkOk_by (own := [("_law_key", 2)]) (N := nGathered) (sc := defScope sGathered) (by decide +kernel)) (fun _ _ _ _ _ => pg_name (i := 2) scGathered.nd rfl (Or.inl rfl))
        (fun _ _ _ _ _ => pts_one (pt_cmpR op_gt (pe_ix (ix_tupK (K := K) rfl) (pe_ngetK (P := P) (w := w) (K := K) (pv 1) (pv 2) (fun _ _ => rfl) rfl rfl rfl hu) pe_int (fun _ _ => rfl)) pe_int (nomark _)))
        (fun _ _ _ _ _ => pe_tup (pa_cons (pv 2) (pa_cons (pe_ngetK (P := P) (w := w) (K := K) (pv 1) (pv 2) (fun _ _ => rfl) rfl rfl rfl hu) pa_nil))))))), ?_⟩
    refine fun d H0 hd k0 nd0 => ?_
    have xl : xs.length = prs.length := by rw [nk.length, List.length_map]
    refine ⟨_, rfl, l, rfl, ⟨_, SqL.kp hl k0 (by simp)⟩, for_list (K := K) (a := l) (xs := xs) (fun i σ H' => ∃ u v : Option V, σ = [some (.ref l), some (.ref d), u, v] ∧ Kp [] H H' ∧ ND P w K H' d (gkv t (gat (prs.take i))))
      ⟨none, none, rfl, k0, by rw [List.take_zero]; exact nd0⟩ (fun i σ H' _ ⟨_, _, _, kp, _⟩ => SqL.kp hl kp (by simp)) ?_ ?_⟩
    · rintro i x σ H' hx ⟨u, v, rfl, kp, nd⟩
      obtain ⟨p, hp, hn⟩ := nkAll_map (prD t) nk hx
      obtain ⟨a, kx, fx, rfl, ha, hk, hf⟩ := pr_at (hn.tk kp.tk)
      have hpm := List.mem_of_getElem? hp
      obtain ⟨ds, hds⟩ := ok.tp p hpm
      obtain ⟨kb, kys, rfl, _, _⟩ := Nk.inv_tup (hds ▸ hk)
      have b1 : p.2 ≤ tot prs := mem_le_tot hpm
      have b2 := val_le_tot (gat (prs.take i)) p.1
      rw [gat_tot] at b2
      have b3 := tot_take_le prs i
      refine ⟨a, _, rfl, ha, rfl, _, _, rfl, _, _, rfl, rfl, _, rfl, d, _, rfl, nd, _, rfl, (by show 2 ≤ sizeLine; decide), fun z hz => ?_⟩
      have kz := Kp.new (S := []) hz (o := .tup [.int 0, .int 1])
      have nd2 := nd.kp kz (by simp)
      refine ⟨kb, _, p.1, _, rfl, nd2, hk.tk kz.tk, ok.dp p hpm, nk_pair hz, fun r hr2 => ?_⟩
      rw [get_gkv t0] at hr2
      refine ⟨_, rfl, r, fx, val (gat (prs.take i)) p.1, p.2, t, rfl, hr2, hf.tk kz.tk, t0, t1, by omega, by omega, fun r2 H2 k2 hr3 => ?_⟩
      refine ⟨_, rfl, _, rfl, d, kb, _, p.1, _, rfl, rfl, nd2.kp k2 (by simp), (hk.tk kz.tk).tk k2.tk, ok.dp p hpm, hr3, ?_, fun H3 k3 nd3 => ?_⟩
      · rw [gkv_len]
        have := gat_length (prs.take i)
        rw [List.length_take] at this
        omega
      · rw [put_gkv, ← gat_take_succ hp] at nd3
        have kall := (kp.trans kz).trans k2
        exact ⟨_, _, rfl, Kp.drop hd ((kall.nil).trans k3), nd3⟩
    · rintro σ H' ⟨u, v, rfl, kp, nd⟩
      rw [xl, List.take_length] at nd
      have hgl := gat_length prs
      refine ⟨_, rfl, d, _, rfl, nd, fun v hv => ?_⟩
      have kv := Kp.new (S := []) hv (o := keysO v d)
      have nd2 := nd.kp kv (by simp)
      refine ⟨v, d, _, rfl, .inr upd_same, nd2, by rw [gkv_keys]; exact ok.al, by rw [gkv_keys]; exact ok.ne, by rw [gkv_len]; omega, fun ls ys hls nys => ?_⟩
      rw [gkv_keys] at nys
      have kl := Kp.new (S := []) hls (o := .lst ys)
      have nd3 := nd2.kp kl (by simp)
      have ysl : ys.length = (gat prs).length := by rw [nys.length, (srt_perm _).length_eq, List.length_map]
      refine ⟨ls, rfl, ⟨_, SqL.of upd_same⟩, fun D1 hD1 => ?_⟩
      have nd1 : d ≠ D1 := by
        obtain ⟨q, hq, _⟩ := nd3
        exact ne_of_none hq hD1
      refine lc_dataL (K := K) (S := []) (J := fun H' => ND P w K H' d (gkv t (gat prs))) (Pd := filtP (srt ((gat prs).map (·.1))) (fun k => decide (0 < val (gat prs) k)) fun k => prD t (k, val (gat prs) k)) (xs := ys) (SqL.of upd_same) (by simp) (by simp) hD1
        (fun H H' kk j => j.kp kk (by simp [nd1])) nd3 filtP.zero (by omega) (fun i x hx => ?_) fun H1 acc ds k1 _ h1 nk1 pd hdl => ?_
      · intro H2 acc ds R N k2 j2 h2 nk2 pd hdl hR hN
        have nys' : NkAll K (L2.upd (L2.upd H' v (keysO v d)) ls (.lst ys)) ys ((srt ((gat prs).map (·.1))).map id) := by rw [List.map_id]; exact NkAll.tk kl.tk nys
        obtain ⟨kk, hkk, hkn⟩ := nkAll_map id nys' hx
        have hkm := srt_mem hkk
        obtain ⟨p, hp, hpe⟩ := List.mem_map.mp hkm
        have hkd : kk.depth ≤ 8 := by rw [← hpe]; exact gat_keys (P := fun k => k.depth ≤ 8) prs ok.dp p hp
        obtain ⟨ds0, hds⟩ : ∃ ds, kk = .tup ds := by rw [← hpe]; exact gat_keys (P := fun k => ∃ ds, k = .tup ds) prs ok.tp p hp
        have hk2 : Nk K H2 x kk := Nk.tk k2.tk hkn
        obtain ⟨kb, kys, rfl, _, _⟩ := Nk.inv_tup (hds ▸ hk2)
        have hlk : look (gkv t (gat prs)) kk = some (frD (val (gat prs) kk) t) := by rw [look_gkv, look_val hkm]; rfl
        refine ⟨rfl, _, rfl, _, rfl, d, kb, _, kk, _, rfl, rfl, j2, hk2, hkd, hlk, fun r hr2 => ?_⟩
        obtain ⟨rp, rfl, hrp⟩ := frD_at hr2
        refine ⟨rp, _, 0, _, rfl, rfl, hrp, at_0, _, _, rfl, rfl, _, rfl, ?_⟩
        by_cases hv0 : 0 < val (gat prs) kk
        · refine iteBT (decide_eq_true ((fr_gt _ _ t0).mpr hv0)) ⟨_, rfl, _, rfl, _, rfl, d, kb, _, kk, _, rfl, rfl, j2, hk2, hkd, hlk, fun r2 hr3 => ⟨(by show 2 ≤ sizeLine; decide), fun z hz => hR _ _ ⟨Kp.new hz, j2.kp (Kp.new (S := []) hz) (by simp), prD t (kk, val (gat prs) kk), Nk.made (.cons hk2 (.cons hr3 .nil)) hz, pd.keep hkk (decide_eq_true hv0)⟩⟩⟩
        · exact iteBF (decide_eq_false (fun z => hv0 ((fr_gt _ _ t0).mp z))) (hN _ (Kp.refl _) j2 (pd.skip hkk (decide_eq_false hv0)))
      · have e := pd.done (by rw [(srt_perm _).length_eq, List.length_map]; omega)
        rw [e] at nk1
        have kall := ((kp.trans kv).trans kl)
        exact k D1 acc H1 (kall.free (by simp) hD1) (kall.trans (Kp.drop hD1 k1)) h1 nk1
end
end Wb

namespace Wb
open PySem L2
open PyProof.Rows (envOfC)
open PySem.W (alike alikeAll AllAlike)

/-! ### the shares of a book, as data -/
abbrev Tri := (List Str × List Int) × Nat
def triD (t : Nat) (x : Tri) : NestedKey := .tup [lotD x.1.1, rowD x.1.2, frD x.2 t]
def marg (qs : Qs) (ns : List Node) (trs : List Tri) : List (NestedKey × Nat) := trs.map fun x => (valsD qs ns x.1.1 x.1.2, x.2)
structure DueOk (qs : Qs) (trs : List Tri) (t : Nat) : Prop where
  t0 : 0 < t
  t1 : t ≤ big
  sum : (trs.map (·.2)).sum = t
  pos : ∀ x ∈ trs, 0 < x.2
  row : ∀ x ∈ trs, x.1.2.length = qs.length
  len : trs.length ≤ 1000
  qlen : qs.length ≤ 1000
structure NodesOk (qs : Qs) (ns : List Node) : Prop where
  mem : ∀ n ∈ ns, n.2 ∈ qs.map (·.1)
  len : ns.length ≤ 1000
noncomputable def marD (qs : Qs) (ns : List Node) (trs : List Tri) (t : Nat) : NestedKey := .tup ((srt ((gat (marg qs ns trs)).map (·.1))).map fun k => prD t (k, val (gat (marg qs ns trs)) k))
theorem tot_marg (qs : Qs) (ns : List Node) (trs : List Tri) : tot (marg qs ns trs) = (trs.map (·.2)).sum := by
  unfold tot marg
  rw [List.map_map]
  rfl
theorem datas_ints : ∀ r : List Int, NestedKey.datas (r.map .num) = r.map PyData.int
  | [] => by unfold NestedKey.datas; rfl
  | n :: r => by
    show NestedKey.datas (.num n :: r.map .num) = .int n :: r.map PyData.int
    unfold NestedKey.datas
    rw [datas_ints r]
    unfold NestedKey.data
    rfl
theorem row_data (r : List Int) : (rowD r).data = .tuple (r.map .int) := by
  unfold rowD NestedKey.data
  rw [datas_ints]
theorem depths_ints : ∀ r : List Int, NestedKey.depthAll (r.map .num) = 0
  | [] => by unfold NestedKey.depthAll; rfl
  | n :: r => by
    show NestedKey.depthAll (.num n :: r.map .num) = 0
    unfold NestedKey.depthAll
    rw [depths_ints r]
    unfold NestedKey.depth
    rfl
theorem row_depth (r : List Int) : (rowD r).depth ≤ 1 := by
  unfold rowD NestedKey.depth
  rw [depths_ints]
  omega
theorem row_alike (r z : List Int) : alike (rowD r).data (rowD z).data = true := by
  rw [row_data, row_data]
  unfold alike
  exact PySem.W.alike_ints r z
theorem one_key {x : NestedKey} : ∀ {l : List NestedKey}, l.Nodup → (∀ k ∈ l, k = x) → l.length < 2
  | [], _, _ => by simp
  | [_], _, _ => by simp
  | k :: k' :: r, nd, all => by
    have e1 := all k (by simp)
    have e2 := all k' (by simp)
    rw [e1, e2] at nd
    exact absurd nd (by simp)
/-- keys that are rows of one length -/
theorem keysOk_rows {prs : List (NestedKey × Nat)} {n : Nat} (h : ∀ p ∈ prs, ∃ r : List Int, p.1 = rowD r ∧ r.length = n) : KeysOk prs where
  al := by
    have hk := gat_keys (P := fun k => ∃ r : List Int, k = rowD r ∧ r.length = n) prs h
    intro d hd d' hd'
    obtain ⟨k, hk1, rfl⟩ := List.mem_map.mp hd
    obtain ⟨k', hk2, rfl⟩ := List.mem_map.mp hd'
    obtain ⟨p, hp, rfl⟩ := List.mem_map.mp hk1
    obtain ⟨p', hp', rfl⟩ := List.mem_map.mp hk2
    obtain ⟨r, e, _⟩ := hk p hp
    obtain ⟨r', e', _⟩ := hk p' hp'
    rw [e, e']
    exact row_alike r r'
  ne := by
    have hk := gat_keys (P := fun k => ∃ r : List Int, k = rowD r ∧ r.length = n) prs h
    cases n with
    | zero =>
      refine .inr ?_
      have nd := gat_nodup prs
      have all : ∀ k ∈ (gat prs).map (·.1), k = .tup [] := by
        intro k hk1
        obtain ⟨p, hp, rfl⟩ := List.mem_map.mp hk1
        obtain ⟨r, e, l⟩ := hk p hp
        rw [e, List.eq_nil_of_length_eq_zero l]
        rfl
      exact one_key nd all
    | succ m =>
      refine .inl fun b hb => ?_
      obtain ⟨p, hp, rfl⟩ := List.mem_map.mp hb
      obtain ⟨r, e, l⟩ := hk p hp
      match r, l with
      | x :: r, _ => exact ⟨.num x, r.map .num, e⟩
  dp := fun p hp => by
    obtain ⟨r, e, _⟩ := h p hp
    rw [e]
    have := row_depth r
    omega
  tp := fun p hp => by
    obtain ⟨r, e, _⟩ := h p hp
    exact ⟨r.map .num, e⟩
theorem keysOk_marg (qs : Qs) (ns : List Node) (trs : List Tri) : KeysOk (marg qs ns trs) := by
  refine keysOk_rows (n := ns.length) fun p hp => ?_
  obtain ⟨x, _, rfl⟩ := List.mem_map.mp hp
  exact ⟨_, rfl, List.length_map _⟩
theorem marg_pos {qs : Qs} {ns : List Node} {trs : List Tri} {t : Nat} (d : DueOk qs trs t) : ∀ p ∈ marg qs ns trs, 0 < p.2 := fun p hp => by
  obtain ⟨x, hx, rfl⟩ := List.mem_map.mp hp
  exact d.pos x hx
theorem outs_all {prs : List (NestedKey × Nat)} (h : ∀ p ∈ prs, 0 < p.2) : outs prs = srt ((gat prs).map (·.1)) := by
  unfold outs
  rw [List.filter_eq_self]
  intro k hk
  exact decide_eq_true (val_pos (gat_nodup prs) (gat_pos prs h) ((srt_perm _).mem_iff.mp hk))
theorem marD_out {qs : Qs} {ns : List Node} {trs : List Tri} {t : Nat} (d : DueOk qs trs t) : marD qs ns trs t = .tup (outD (marg qs ns trs) t) := by
  unfold marD outD
  rw [outs_all (marg_pos d)]
/-- over no nodes: all is one row -/
theorem marD_nil {qs : Qs} {trs : List Tri} {t : Nat} (d : DueOk qs trs t) : marD qs [] trs t = .tup [.tup [.tup [], .tup [.num 1, .num 1]]] := by
  have ne : trs ≠ [] := fun e => by
    have := d.sum
    rw [e] at this
    have := d.t0
    simp at *
    omega
  have hg : gat (marg qs [] trs) = [(rowD [], t)] := by
    have := gat_one (k := rowD []) (xs := marg qs [] trs) (by unfold marg; simpa using ne) (fun x hx => by
      obtain ⟨y, _, rfl⟩ := List.mem_map.mp hx
      rfl)
    rw [tot_marg, d.sum] at this
    exact this
  unfold marD
  rw [hg]
  have hs : srt ([(rowD [], t)].map (·.1)) = [rowD []] := srt_short (by simp)
  rw [hs]
  have hv : val [(rowD [], t)] (rowD []) = t := by unfold val; rw [look_pos rfl]; rfl
  simp only [List.map_cons, List.map_nil]
  rw [hv]
  unfold prD
  rw [frD_self d.t0]
  rfl

/-! the field's rule with the fragment named -/
theorem pe_fldK {X : Cx} {e : Expr} {f : Str} {pos : Pos} {ta : TE} {K : PySem.W.Frag} (he : PE X e ta) (hb : attributeBase e f X.env (eval e X.env) = eval e X.env) (hK : X.K = K) : PE X (.Attribute e f pos) (tFld K ta f) := by
  subst hK
  exact pe_fld he hb
section
variable {P : Program} {w : World} {K : PySem.W.Frag} {mg : Str → Option Value} {base : Heap} {CF CB : Addr}
/-- a def that keeps its promise, called by keywords too -/
def CalK (P : Program) (w : World) (K : PySem.W.Frag) (mg : Str → Option Value) (base : Heap) (k : Nat) (x : Str) (ps ks : List Str) (g : List Value → List Value → List Value) (gV : List V → List V → List V) (sp : Sp) : Prop :=
  ∃ f fd, FnOk P w K mg base CX0 k f fd ps sp ∧ mg x = some (.ref f) ∧ PySem.W.keepIn K (.ref f) = true ∧ Binds K fd ps [] ∧ KBinds K fd ps ks g gV
theorem CalK.cal {k : Nat} {x : Str} {ps ks : List Str} {g : List Value → List Value → List Value} {gV : List V → List V → List V} {sp : Sp} (c : CalK P w K mg base k x ps ks g gV sp) : Cal P w K mg base k x ps sp := by
  obtain ⟨f, fd, F, m, kp, b, _⟩ := c
  exact ⟨f, fd, F, m, kp, b⟩
theorem cal_mkK {x : Str} {st : Stmt} {N ps ks : List Str} {k : Nat} {sp : Sp} {g : List Value → List Value → List Value} {gV : List V → List V → List V} (d : Df K mg x st ps) (kb : ∀ f fd, Fun K x x st f fd → KBinds K fd ps ks g gV) (S : FnScope N ps (defScope st)) (len : ∀ vs H Q E, sp vs H Q E → vs.length = ps.length)
    (hbody : ∀ (f : Addr) (cdv : Value) (A : Around) (outer : List Env) (s : Shared) (H : Hp) (vs : List V) (Q : VK) (E : XK), Room k (A.deeper (envOfC x (defScope st) s.heap.objs.size f cdv)) → sp vs H Q E →
      ∃ t, PSs (cxOf CX0 P w K mg base N x (defScope st) f cdv A outer s H E).nox (defBody st) t ∧ t { nx := fun _ H' => Q .non H', rt := Q } (start N vs) H) : CalK P w K mg base (k + 1) x ps ks g gV sp := by
  obtain ⟨f, fd, F, b, m⟩ := d
  exact ⟨f, fd, F.ok S len fun cdv A outer s H vs Q E hr h => hbody f cdv A outer s H vs Q E hr h, m, F.kp, b, kb f fd F⟩
theorem tri_at {H : Hp} {v : V} {x : Tri} {t : Nat} (h : Nk K H v (triD t x)) : ∃ a lo ro sh, v = .ref a ∧ SqT K H a [lo, ro, sh] ∧ Nk K H lo (lotD x.1.1) ∧ Nk K H ro (rowD x.1.2) ∧ Nk K H sh (frD x.2 t) := Nk.inv_tup3 h
/-! ### margin -/
def spMargin (K : PySem.W.Frag) (CF CB : Addr) : Sp := fun vs H Q _ => ∃ (b f : Addr) (nd q s : V) (qs : Qs) (ns : List Node) (trs : List Tri) (t : Nat), vs = [.ref b, nd] ∧ BookAt CB H b (.ref f) s ∧ FormAt CF H f q ∧ Nk K H q (qsD qs) ∧ Nk K H nd (.tup (ns.map nodeD)) ∧ Nk K H s (.tup (trs.map (triD t))) ∧ DueOk qs trs t ∧ NodesOk qs ns ∧
  ∀ v H', Kp [] H H' → Nk K H' v (marD qs ns trs t) → Q v H'
abbrev pMargin : List Str := ["book", "nodes"]
abbrev nMargin : List Str := ["book", "nodes", "sums", "lot", "truth", "share", "values", "node"]
theorem scMargin : FnScope nMargin pMargin (defScope sMargin) := ⟨rfl, rfl, rfl, by decide +kernel, rfl, by decide +kernel, by decide +kernel⟩
def gM (us ws : List Value) : List Value := us ++ ws.reverse
def gMV (us ws : List V) : List V := us ++ ws.reverse
theorem vals_snoc : ∀ {vs : List V} {us : List Value} {v : V} {u : Value}, Vals vs us → RelV v u → Vals (vs ++ [v]) (us ++ [u])
  | _, _, _, _, .nil, r => .cons r .nil
  | _, _, _, _, .cons a b, r => .cons a (vals_snoc b r)
theorem vals_rev : ∀ {vs : List V} {us : List Value}, Vals vs us → Vals vs.reverse us.reverse
  | _, _, .nil => .nil
  | _, _, .cons a b => by
    rw [List.reverse_cons, List.reverse_cons]
    exact vals_snoc (vals_rev b) a
theorem kb_margin {f : Addr} {fd : FuncData} (F : Fun K "margin" "margin" sMargin f fd) : KBinds K fd pMargin ["nodes", "book"] gM gMV := by
  obtain ⟨oc, od, kV, doc, pm, an, cdv, ct, osl, rfl, lk, hcd⟩ := F.ex
  refine ⟨fun s us ws _ hl => ?_, fun r z => r.append (vals_rev z)⟩
  unfold gM at hl ⊢
  rw [List.length_append, List.length_reverse] at hl
  have h2 : us.length + ws.length = 2 := hl
  clear hl F lk hcd
  match us, ws, h2 with
  | [], [_, _], _ => exact .of_eq (by kernel_rfl)
  | [_], [_], _ => exact .of_eq (by kernel_rfl)
  | [_, _], [], _ => exact .of_eq (by kernel_rfl)
  | [], [_], h => simp only [List.length_cons, List.length_nil] at h; exfalso; omega
  | [], [], h => simp only [List.length_cons, List.length_nil] at h; exfalso; omega
  | [_], [], h => simp only [List.length_cons, List.length_nil] at h; exfalso; omega
  | [], _ :: _ :: _ :: _, h => simp only [List.length_cons, List.length_nil] at h; exfalso; omega
  | [_], _ :: _ :: _, h => simp only [List.length_cons, List.length_nil] at h; exfalso; omega
  | [_, _], _ :: _, h => simp only [List.length_cons, List.length_nil] at h; exfalso; omega
  | _ :: _ :: _ :: _, _, h => simp only [List.length_cons, List.length_nil] at h; exfalso; omega
theorem ok_margin (D : Df K mg "margin" sMargin pMargin) (T : Txt mg) (c : Cl K CF CB) (Z : Zr K mg) (CV : Cal P w K mg base 2 "value_in" pValueIn (spValueIn K CF)) (CP : Cal P w K mg base 2 "plus" pPlus (spPlus K)) : CalK P w K mg base 3 "margin" pMargin ["nodes", "book"] gM gMV (spMargin K CF CB) := by
  refine cal_mkK D (fun _ _ => kb_margin) scMargin (fun vs H Q E h => ?_) (fun f cdv A outer sh0 H vs Q E hr h => ?_)
  · obtain ⟨b, f, nd, q, s, qs, ns, trs, t, rfl, _⟩ := h
    rfl
  · obtain ⟨b, fo, nd, q, s, qs, ns, trs, t, rfl, hB, hF, hq, hn, hs, hd, hns, k⟩ := h
    obtain ⟨z, hz, hzn⟩ := Z
    have hu := hr.units
    have hu2 : (A.deeper (envOfC "margin" (defScope sMargin) sh0.heap.objs.size f cdv)).units + 128 < cLine := by have := hr.un; omega
    refine ⟨_, pss_cons (ps_set (i := 2) scMargin.nd rfl (Or.inr rfl) pe_nnew)
      (pss_cons (ps_for PassesOwn.never rfl (pi_tup (pe_fld (pv 0) rfl)) (pg_tup rfl (pgs_cons (pg_name (i := 3) scMargin.nd rfl (Or.inr rfl)) (pgs_cons (pg_name (i := 4) scMargin.nd rfl (Or.inr rfl)) (pgs_cons (pg_name (i := 5) scMargin.nd rfl (Or.inl rfl)) pgs_nil))))
        (pss_cons (ps_set (i := 6) scMargin.nd rfl (Or.inl rfl) (w_tuple T.tuple (pe_lc (own := [("node", 7)]) (g := gName 7) rfl scMargin.nd (pi_tup (pv 1)) (blkOk_by (own := [("node", 7)]) (N := nMargin) (sc := defScope sMargin) (by decide +kernel))
            (fun _ _ _ _ _ => pg_name (i := 7) scMargin.nd rfl (Or.inl rfl)) (fun _ _ _ _ _ => pts_nil) (fun _ _ _ _ _ => pe_cal CV hr (pa_cons (pe_fldK (K := K) (pv 0) rfl rfl) (pa_cons (pv 7) (pa_cons (pv 3) (pa_cons (pv 4) pa_nil))))))))
          (pss_one (ps_nput hu (pv 2) (pv 6) (pe_cal CP hr (pa_cons (pe_nget2 hu (pv 2) (pv 6) (pe_glob (v := .ref z) rfl hz rfl) ⟨rfl, rfl, rfl, rfl⟩) (pa_cons (pv 5) pa_nil))) rfl))))
      (pss_one (ps_ret (w_tuple T.tuple (pe_lc (own := [("values", 6)]) (g := gName 6) rfl scMargin.nd (pi_list (pe_callB (cr_sortedN rfl hu2) rfl T.sorted PyProof.Rows.boot_sorted (pa_cons (pv 2) pa_nil)))
        (blkOk_by (own := [("values", 6)]) (N := nMargin) (sc := defScope sMargin) (by decide +kernel)) (fun _ _ _ _ _ => pg_name (i := 6) scMargin.nd rfl (Or.inl rfl))
        (fun _ _ _ _ _ => pts_nil)
        (fun _ _ _ _ _ => pe_tup (pa_cons (pv 6) (pa_cons (pe_ngetK (P := P) (w := w) (K := K) (pv 2) (pv 6) (fun _ _ => rfl) rfl rfl rfl hu) pa_nil)))))))), ?_⟩
    refine fun d H0 hd0 k0 nd0 => ?_
    obtain ⟨ps, xs, rfl, hps, hxs⟩ := hs.inv_tup
    obtain ⟨pn, nxs, rfl, hpn, hnxs⟩ := hn.inv_tup
    have hnl : nxs.length = ns.length := by rw [hnxs.length, List.length_map]
    have xl : xs.length = trs.length := by rw [hxs.length, List.length_map]
    have T1 := hd.t1
    have T0 := hd.t0
    have tb : tot (marg qs ns trs) = t := by rw [tot_marg, hd.sum]
    have ml : (marg qs ns trs).length = trs.length := List.length_map _
    have KO := keysOk_marg qs ns trs
    obtain ⟨dx, fs, hb1, hb2, hb3⟩ := hB.kp k0 (by simp)
    refine ⟨_, rfl, b, CB, dx, _, _, rfl, hb1, c.clB, c.nS, hb3, ps, rfl, ⟨_, SqT.tk k0.tk hps⟩, for_tup (K := K) (a := ps) (xs := xs) (fun i σ H' => ∃ u3 u4 u5 u6 : Option V, σ = [some (.ref b), some (.ref pn), some (.ref d), u3, u4, u5, u6, none] ∧ Kp [] H H' ∧ ND P w K H' d (gkv t (gat ((marg qs ns trs).take i))))
      ⟨none, none, none, none, rfl, k0, by rw [List.take_zero]; exact nd0⟩ (fun i σ H' _ ⟨_, _, _, _, _, kp, _⟩ => SqT.tk kp.tk hps) ?_ ?_⟩
    · rintro i x σ H' hx ⟨u3, u4, u5, u6, rfl, kp, nd⟩
      obtain ⟨tr, htr, hn3⟩ := nkAll_map (triD t) hxs hx
      obtain ⟨a, lo, ro, sh, rfl, ha, hlo, hro, hsh⟩ := tri_at (hn3.tk kp.tk)
      have hmem := List.mem_of_getElem? htr
      refine ⟨a, _, rfl, ha, rfl, _, _, rfl, _, _, rfl, _, _, rfl, rfl, ?_⟩
      refine ⟨_, rfl, pn, rfl, ⟨_, SqT.tk kp.tk hpn⟩, fun D1 hD1 => ?_⟩
      have nd1 : d ≠ D1 := by
        obtain ⟨q, hq, _⟩ := nd
        exact ne_of_none hq hD1
      refine lc_dataT (K := K) (S := []) (J := J0) (Pd := mapP ns fun n => .num (valN qs n tr.1.1 tr.1.2)) (xs := nxs) (SqT.tk kp.tk hpn) (by simp) hD1 hJ0 trivial mapP.zero (by have := hns.len; omega) (fun j y hy => ?_) fun H1 acc ds k1 _ h1 nk1 pd hdl => ?_
      · intro H2 acc ds R N k2 _ h2 nk2 pd hdl hR hN
        obtain ⟨n, hnj, hy2⟩ := nkAll_map nodeD hnxs hy
        have kk : Kp [] H' H2 := Kp.drop hD1 k2
        obtain ⟨dx2, fs2, hc1, hc2, hc3⟩ := (hB.kp (kp.trans kk) (by simp))
        refine ⟨rfl, tYes_el ⟨_, rfl, b, CB, dx2, _, _, rfl, hc1, c.clB, c.nF, hc2, _, rfl, _, rfl, _, rfl, fo, q, y, lo, ro, qs, n, tr.1.1, tr.1.2, rfl, hF.kp (kp.trans kk) (by simp), (hq.tk kp.tk).tk kk.tk, (hy2.tk kp.tk).tk kk.tk, hlo.tk kk.tk, hro.tk kk.tk, ⟨hns.mem n (List.mem_of_getElem? hnj), hd.row tr hmem, hd.qlen⟩, fun H3 k3 => hR _ _ ⟨k3, trivial, _, .num _, pd.step hnj⟩⟩⟩
      · obtain rfl := pd.done (by omega)
        have kD : Kp [] H' H1 := Kp.drop hD1 k1
        refine ⟨D1, _, rfl, .inl ⟨SqL.of h1, fun p hp => ?_⟩⟩
        have kz := Kp.new (S := []) hp (o := .tup acc)
        have nd2 := (nd.kp kD (by simp)).kp kz (by simp)
        have hk : Nk K (L2.upd H1 p (.tup acc)) (.ref p) (valsD qs ns tr.1.1 tr.1.2) := by
          have e : valsD qs ns tr.1.1 tr.1.2 = .tup (ns.map fun n => .num (valN qs n tr.1.1 tr.1.2)) := by unfold valsD rowD; rw [List.map_map]; rfl
          rw [e]
          exact Nk.made nk1 hp
        have hp2 : (marg qs ns trs)[i]? = some (valsD qs ns tr.1.1 tr.1.2, tr.2) := by unfold marg; rw [List.getElem?_map, htr]; rfl
        have b1 : tr.2 ≤ tot (marg qs ns trs) := mem_le_tot (List.mem_of_getElem? hp2)
        have b2 := val_le_tot (gat ((marg qs ns trs).take i)) (valsD qs ns tr.1.1 tr.1.2)
        rw [gat_tot] at b2
        have b3 := tot_take_le (marg qs ns trs) i
        have d8 : (valsD qs ns tr.1.1 tr.1.2).depth ≤ 8 := KO.dp _ (List.mem_of_getElem? hp2)
        refine ⟨_, rfl, d, _, rfl, nd2, _, rfl, p, _, valsD qs ns tr.1.1 tr.1.2, _, rfl, nd2, hk, d8, hzn _, fun r hr2 => ?_⟩
        rw [get_gkv T0] at hr2
        refine ⟨_, rfl, r, sh, val (gat ((marg qs ns trs).take i)) (valsD qs ns tr.1.1 tr.1.2), tr.2, t, rfl, hr2, (hsh.tk kD.tk).tk kz.tk, T0, T1, by omega, by omega, fun r2 H2 k2 hr3 => ?_⟩
        refine ⟨_, rfl, _, rfl, d, p, _, valsD qs ns tr.1.1 tr.1.2, _, rfl, rfl, nd2.kp k2 (by simp), hk.tk k2.tk, d8, hr3, ?_, fun H3 k3 nd3 => ?_⟩
        · rw [gkv_len]
          have := gat_length ((marg qs ns trs).take i)
          rw [List.length_take] at this
          have := hd.len
          omega
        · rw [put_gkv, ← gat_take_succ hp2] at nd3
          have kall := ((kp.trans kD).trans kz).trans k2
          exact ⟨_, _, _, _, rfl, Kp.drop hd0 ((kall.nil).trans k3), nd3⟩
    · rintro σ H' ⟨u3, u4, u5, u6, rfl, kp, nd⟩
      rw [xl, ← ml, List.take_length] at nd
      have hgl := gat_length (marg qs ns trs)
      have hdl := hd.len
      refine ⟨_, rfl, d, d, _, rfl, .inl rfl, nd, by rw [gkv_keys]; exact KO.al, by rw [gkv_keys]; exact KO.ne, by rw [gkv_len]; omega, fun ls ys hls nys => ?_⟩
      rw [gkv_keys] at nys
      have kl := Kp.new (S := []) hls (o := .lst ys)
      have nd3 := nd.kp kl (by simp)
      have ysl : ys.length = (gat (marg qs ns trs)).length := by rw [nys.length, (srt_perm _).length_eq, List.length_map]
      refine ⟨ls, rfl, ⟨_, SqL.of upd_same⟩, fun D1 hD1 => ?_⟩
      have nd1 : d ≠ D1 := by
        obtain ⟨q, hq, _⟩ := nd3
        exact ne_of_none hq hD1
      refine lc_dataL (K := K) (S := []) (J := fun H' => ND P w K H' d (gkv t (gat (marg qs ns trs)))) (Pd := mapP (srt ((gat (marg qs ns trs)).map (·.1))) fun k => prD t (k, val (gat (marg qs ns trs)) k)) (xs := ys) (SqL.of upd_same) (by simp) (by simp) hD1
        (fun H H' kk j => j.kp kk (by simp [nd1])) nd3 mapP.zero (by omega) (fun i x hx => ?_) fun H1 acc ds k1 _ h1 nk1 pd hdl => ?_
      · intro H2 acc ds R N k2 j2 h2 nk2 pd hdl hR hN
        have nys' : NkAll K (L2.upd H' ls (.lst ys)) ys ((srt ((gat (marg qs ns trs)).map (·.1))).map id) := by rw [List.map_id]; exact NkAll.tk kl.tk nys
        obtain ⟨kk, hkk, hkn⟩ := nkAll_map id nys' hx
        have hkm := srt_mem hkk
        obtain ⟨p, hp, hpe⟩ := List.mem_map.mp hkm
        have hkd : kk.depth ≤ 8 := by rw [← hpe]; exact gat_keys (P := fun k => k.depth ≤ 8) (marg qs ns trs) KO.dp p hp
        obtain ⟨ds0, hds⟩ : ∃ ds, kk = .tup ds := by rw [← hpe]; exact gat_keys (P := fun k => ∃ ds, k = .tup ds) (marg qs ns trs) KO.tp p hp
        have hk2 : Nk K H2 x kk := Nk.tk k2.tk hkn
        obtain ⟨kb, kys, rfl, _, _⟩ := Nk.inv_tup (hds ▸ hk2)
        have hlk : look (gkv t (gat (marg qs ns trs))) kk = some (frD (val (gat (marg qs ns trs)) kk) t) := by rw [look_gkv, look_val hkm]; rfl
        refine ⟨rfl, tYes_el ⟨_, rfl, _, rfl, _, rfl, d, kb, _, kk, _, rfl, rfl, j2, hk2, hkd, hlk, fun r2 hr3 => ⟨(by show 2 ≤ sizeLine; decide), fun z hz => hR _ _ ⟨Kp.new hz, j2.kp (Kp.new (S := []) hz) (by simp), prD t (kk, val (gat (marg qs ns trs)) kk), Nk.made (.cons hk2 (.cons hr3 .nil)) hz, pd.step hkk⟩⟩⟩⟩
      · have e := pd.done (by rw [(srt_perm _).length_eq, List.length_map]; omega)
        rw [e] at nk1
        have kall := (kp.trans kl).trans (Kp.drop hD1 k1)
        exact ⟨D1, _, rfl, .inl ⟨SqL.of h1, fun p hp => k _ _ (kall.trans (Kp.new hp)) (Nk.made nk1 hp)⟩⟩
end
end Wb

namespace Wb
open PySem L2
open PyProof.Rows (envOfC)
open PySem.W (alike alikeAll AllAlike)

/-! ### _law_triples, _law_margin -/
def keyD (k : List Str × List Int) : NestedKey := .tup [lotD k.1, rowD k.2]
def kpr (trs : List Tri) : List (NestedKey × Nat) := trs.map fun x => (keyD x.1, x.2)
theorem datas_texts : ∀ r : List Str, NestedKey.datas (r.map .text) = r.map PyData.str
  | [] => by unfold NestedKey.datas; rfl
  | n :: r => by
    show NestedKey.datas (.text n :: r.map .text) = .str n :: r.map PyData.str
    unfold NestedKey.datas
    rw [datas_texts r]
    unfold NestedKey.data
    rfl
theorem lot_data (r : List Str) : (lotD r).data = .tuple (r.map .str) := by
  unfold lotD NestedKey.data
  rw [datas_texts]
theorem depths_texts : ∀ r : List Str, NestedKey.depthAll (r.map .text) = 0
  | [] => by unfold NestedKey.depthAll; rfl
  | n :: r => by
    show NestedKey.depthAll (.text n :: r.map .text) = 0
    unfold NestedKey.depthAll
    rw [depths_texts r]
    unfold NestedKey.depth
    rfl
theorem alike_texts : ∀ xs ys : List Str, alikeAll (xs.map .str) (ys.map .str) = true
  | [], _ => by simp [alikeAll]
  | _ :: _, [] => by simp [alikeAll]
  | x :: xs, y :: ys => by
    show alikeAll (.str x :: xs.map .str) (.str y :: ys.map .str) = true
    rw [alikeAll, alike_texts xs ys]
    simp [alike]
theorem lot_alike (r z : List Str) : alike (lotD r).data (lotD z).data = true := by
  rw [lot_data, lot_data]
  unfold alike
  exact alike_texts r z
theorem key_data (k : List Str × List Int) : (keyD k).data = .tuple [(lotD k.1).data, (rowD k.2).data] := by
  show (NestedKey.tup [lotD k.1, rowD k.2]).data = _
  rw [NestedKey.data, NestedKey.datas, NestedKey.datas, NestedKey.datas]
theorem key_alike (k z : List Str × List Int) : alike (keyD k).data (keyD z).data = true := by
  rw [key_data, key_data]
  rw [alike, alikeAll, alikeAll, alikeAll, lot_alike, row_alike]
  rfl
theorem key_depth (k : List Str × List Int) : (keyD k).depth ≤ 8 := by
  show (NestedKey.tup [.tup (k.1.map .text), .tup (k.2.map .num)]).depth ≤ 8
  rw [NestedKey.depth, NestedKey.depthAll, NestedKey.depthAll, NestedKey.depthAll, NestedKey.depth, NestedKey.depth, depths_texts, depths_ints]
  omega
theorem keysOk_kpr (trs : List Tri) : KeysOk (kpr trs) where
  al := by
    have hk := gat_keys (P := fun k => ∃ r, k = keyD r) (kpr trs) (fun p hp => by
      obtain ⟨x, _, rfl⟩ := List.mem_map.mp hp
      exact ⟨_, rfl⟩)
    intro d hd d' hd'
    obtain ⟨k, hk1, rfl⟩ := List.mem_map.mp hd
    obtain ⟨k', hk2, rfl⟩ := List.mem_map.mp hd'
    obtain ⟨p, hp, rfl⟩ := List.mem_map.mp hk1
    obtain ⟨p', hp', rfl⟩ := List.mem_map.mp hk2
    obtain ⟨r, e⟩ := hk p hp
    obtain ⟨r', e'⟩ := hk p' hp'
    rw [e, e']
    exact key_alike r r'
  ne := by
    have hk := gat_keys (P := fun k => ∃ r, k = keyD r) (kpr trs) (fun p hp => by
      obtain ⟨x, _, rfl⟩ := List.mem_map.mp hp
      exact ⟨_, rfl⟩)
    refine .inl fun b hb => ?_
    obtain ⟨p, hp, rfl⟩ := List.mem_map.mp hb
    obtain ⟨r, e⟩ := hk p hp
    exact ⟨_, _, e⟩
  dp := fun p hp => by
    obtain ⟨x, _, rfl⟩ := List.mem_map.mp hp
    exact key_depth _
  tp := fun p hp => by
    obtain ⟨x, _, rfl⟩ := List.mem_map.mp hp
    exact ⟨_, rfl⟩
theorem lift_all {α β : Type} {f : α → β} {Pr : α → Prop} : ∀ {l : List β}, (∀ b ∈ l, ∃ a, b = f a ∧ Pr a) → ∃ as : List α, l = as.map f ∧ ∀ a ∈ as, Pr a
  | [], _ => ⟨[], rfl, by simp⟩
  | b :: l, h => by
    obtain ⟨a, rfl, p⟩ := h b (by simp)
    obtain ⟨as, rfl, q⟩ := lift_all (l := l) fun b hb => h b (List.mem_cons_of_mem _ hb)
    exact ⟨a :: as, rfl, fun x hx => by
      rcases List.mem_cons.mp hx with e | e
      · rw [e]; exact p
      · exact q x e⟩
theorem outs_kpr (trs : List Tri) : ∃ trs' : List Tri, (∀ t, outD (kpr trs) t = trs'.map fun x => prD t (keyD x.1, x.2)) ∧ (∀ x ∈ trs', 0 < x.2 ∧ ∃ y ∈ trs, y.1 = x.1) ∧ (trs'.map (·.2)).sum = (trs.map (·.2)).sum ∧ trs'.length ≤ trs.length := by
  have hk := gat_keys (P := fun k => ∃ r, k = keyD r ∧ ∃ y ∈ trs, y.1 = r) (kpr trs) (fun p hp => by
    obtain ⟨x, hx, rfl⟩ := List.mem_map.mp hp
    exact ⟨_, rfl, x, hx, rfl⟩)
  obtain ⟨ks, hks, hp⟩ := lift_all (f := keyD) (Pr := fun r => 0 < val (gat (kpr trs)) (keyD r) ∧ ∃ y ∈ trs, y.1 = r) (l := outs (kpr trs)) (fun b hb => by
    unfold outs at hb
    obtain ⟨hb1, hb2⟩ := List.mem_filter.mp hb
    obtain ⟨p, hp, rfl⟩ := List.mem_map.mp ((srt_perm _).mem_iff.mp hb1)
    obtain ⟨r, e, y⟩ := hk p hp
    exact ⟨r, e, by rw [← e]; exact of_decide_eq_true hb2, y⟩)
  have hsum : ((outs (kpr trs)).map (val (gat (kpr trs)))).sum = (trs.map (·.2)).sum := by
    unfold outs
    rw [sum_filter_pos, tot_perm (gat_nodup _) (srt_perm _), gat_tot]
    unfold tot kpr
    rw [List.map_map]
    rfl
  have hlen : (outs (kpr trs)).length ≤ trs.length := by
    unfold outs
    refine Nat.le_trans (List.length_filter_le _ _) ?_
    rw [(srt_perm _).length_eq, List.length_map]
    exact Nat.le_trans (gat_length _) (by unfold kpr; rw [List.length_map]; exact Nat.le_refl _)
  refine ⟨ks.map fun k => (k, val (gat (kpr trs)) (keyD k)), fun t => ?_, fun x hx => ?_, ?_, ?_⟩
  · unfold outD
    rw [hks, List.map_map, List.map_map]
    rfl
  · obtain ⟨k, hk, rfl⟩ := List.mem_map.mp hx
    exact hp k hk
  · rw [← hsum, hks, List.map_map, List.map_map]
    rfl
  · rw [List.length_map]
    rw [hks, List.length_map] at hlen
    exact hlen
section
variable {P : Program} {w : World} {K : PySem.W.Frag} {mg : Str → Option Value} {base : Heap}
def pairD (t : Nat) (x : Tri) : NestedKey := prD t (keyD x.1, x.2)
/-- what a book of shares has of its rows -/
structure Fit (trs trs' : List Tri) : Prop where
  pos : ∀ x ∈ trs', 0 < x.2
  key : ∀ x ∈ trs', ∃ y ∈ trs, y.1 = x.1
  sum : (trs'.map (·.2)).sum = (trs.map (·.2)).sum
  len : trs'.length ≤ trs.length
def spTriples (K : PySem.W.Frag) : Sp := fun vs H Q _ => ∃ (l : Addr) (xs : List V) (trs : List Tri) (t : Nat), vs = [.ref l] ∧ SqL K H l xs ∧ NkAll K H xs (trs.map (pairD t)) ∧ 0 < t ∧ t ≤ big ∧ (trs.map (·.2)).sum ≤ big ∧ trs.length ≤ 1000 ∧
  ∀ (v : V) (H' : Hp) (trs' : List Tri), Kp [] H H' → Nk K H' v (.tup (trs'.map (triD t))) → Fit trs trs' → Q v H'
abbrev pTriples : List Str := ["_law_pairs"]
abbrev nTriples : List Str := ["_law_pairs", "_law_key", "_law_share"]
theorem scTriples : FnScope nTriples pTriples (defScope sTriples) := ⟨rfl, rfl, rfl, by decide +kernel, rfl, by decide +kernel, by decide +kernel⟩
theorem ok_triples (D : Df K mg "_law_triples" sTriples pTriples) (T : Txt mg) (C : Cal P w K mg base 4 "_law_gathered" pGathered (spGathered K)) : Cal P w K mg base 5 "_law_triples" pTriples (spTriples K) := by
  refine cal_mk D scTriples (fun vs H Q E h => ?_) (fun f cdv A outer sh0 H vs Q E hr h => ?_)
  · obtain ⟨l, xs, trs, t, rfl, _⟩ := h
    rfl
  · obtain ⟨l, xs, trs, t, rfl, hl, nk, t0, t1, tb, pl, k⟩ := h
    refine ⟨_, pss_one (ps_ret (w_tuple T.tuple (pe_lc (own := [("_law_key", 1), ("_law_share", 2)]) (g := gTup K 2 (gCons (gName 1) (gCons (gName 2) gNil))) rfl scTriples.nd (pi_list (pe_cal C hr (pa_cons (pv 0) pa_nil)))
      (blkOk_by (own := [("_law_key", 1), ("_law_share", 2)]) (N := nTriples) (sc := defScope sTriples) (by decide +kernel))
      (fun _ _ _ _ _ => pg_tup rfl (pgs_cons (pg_name (i := 1) scTriples.nd rfl (Or.inl rfl)) (pgs_cons (pg_name (i := 2) scTriples.nd rfl (Or.inl rfl)) pgs_nil)))
      (fun _ _ _ _ _ => pts_nil)
      (fun _ _ _ _ _ => pe_tup (pa_cons (pe_ix (ix_tupK (K := K) rfl) (pv 1) pe_int (fun _ _ => rfl)) (pa_cons (pe_ix (ix_tupK (K := K) rfl) (pv 1) pe_int (fun _ _ => rfl)) (pa_cons (pv 2) pa_nil))))))), ?_⟩
    have htot : tot (kpr trs) = (trs.map (·.2)).sum := by unfold tot kpr; rw [List.map_map]; rfl
    have hml : (kpr trs).length = trs.length := List.length_map _
    have hmm : trs.map (pairD t) = (kpr trs).map (prD t) := by unfold kpr; rw [List.map_map]; rfl
    rw [hmm] at nk
    obtain ⟨trs', ho, hp', hs', hl'⟩ := outs_kpr trs
    refine ⟨_, rfl, l, xs, kpr trs, t, rfl, hl, nk, t0, t1, by rw [htot]; exact tb, keysOk_kpr trs, by omega, fun l' ys H' hl0 k0 hl1 nys => ?_⟩
    rw [ho t] at nys
    have ysl : ys.length = trs'.length := by rw [nys.length, List.length_map]
    refine ⟨l', rfl, ⟨_, SqL.of hl1⟩, fun D1 hD1 => ?_⟩
    refine lc_dataL (K := K) (S := []) (J := J0) (Pd := mapP trs' (triD t)) (xs := ys) (SqL.of hl1) (by simp) (by simp) hD1 hJ0 trivial mapP.zero (by omega) (fun i x hx => ?_) fun H1 acc ds k1 _ h1 nk1 pd hdl => ?_
    · intro H2 acc ds R N k2 _ h2 nk2 pd hdl hR hN
      obtain ⟨tr, htr, hn⟩ := nkAll_map (fun x : Tri => prD t (keyD x.1, x.2)) nys hx
      have kk : Kp [] H' H2 := Kp.drop hD1 k2
      obtain ⟨p, kv, sh, rfl, hp, hk, hsh⟩ := pr_at (hn.tk kk.tk)
      obtain ⟨kb, lo, ro, rfl, hkb, hlo, hro⟩ := Nk.inv_tup2 hk
      refine ⟨p, _, rfl, hp, rfl, _, _, rfl, _, _, rfl, rfl, rfl, tYes_el ⟨_, rfl, kb, _, 0, _, rfl, rfl, hkb, at_0, _, rfl, kb, _, 1, _, rfl, rfl, hkb, at_1, _, rfl, (by show 3 ≤ sizeLine; decide), fun z hz => hR _ _ ⟨Kp.new hz, trivial, triD t tr, Nk.made (.cons hlo (.cons hro (.cons hsh .nil))) hz, pd.step htr⟩⟩⟩
    · obtain rfl := pd.done (by omega)
      exact ⟨D1, _, rfl, .inl ⟨SqL.of h1, fun p hp => k _ _ trs' ((k0.trans (Kp.drop hD1 k1)).trans (Kp.new hp)) (Nk.made nk1 hp) ⟨fun x hx => (hp' x hx).1, fun x hx => (hp' x hx).2, hs', hl'⟩⟩⟩
/-! ### _law_margin -/
def spMarginL (K : PySem.W.Frag) : Sp := fun vs H Q _ => ∃ (q s nd : V) (qs : Qs) (ns : List Node) (trs : List Tri) (t : Nat), vs = [q, s, nd] ∧ Nk K H q (qsD qs) ∧ Nk K H nd (.tup (ns.map nodeD)) ∧ Nk K H s (.tup (trs.map (triD t))) ∧ DueOk qs trs t ∧ NodesOk qs ns ∧
  ∀ v H', Kp [] H H' → Nk K H' v (marD qs ns trs t) → Q v H'
abbrev pMarginL : List Str := ["_law_questions_here", "_law_triples_here", "_law_nodes_here"]
abbrev nMarginL : List Str := ["_law_questions_here", "_law_triples_here", "_law_nodes_here", "_law_lot", "_law_truth", "_law_share"]
theorem scMarginL : FnScope nMarginL pMarginL (defScope sMarginL) := ⟨rfl, rfl, rfl, by decide +kernel, rfl, by decide +kernel, by decide +kernel⟩
theorem ok_marginL (D : Df K mg "_law_margin" sMarginL pMarginL) (T : Txt mg) (CV : Cal P w K mg base 2 "_law_values" pValues (spValues K)) (CG : Cal P w K mg base 4 "_law_gathered" pGathered (spGathered K)) : Cal P w K mg base 5 "_law_margin" pMarginL (spMarginL K) := by
  refine cal_mk D scMarginL (fun vs H Q E h => ?_) (fun f cdv A outer sh0 H vs Q E hr h => ?_)
  · obtain ⟨q, s, nd, qs, ns, trs, t, rfl, _⟩ := h
    rfl
  · obtain ⟨q, s, nd, qs, ns, trs, t, rfl, hq, hn, hs, hd, hns, k⟩ := h
    have hr2 : Room 2 (A.deeper (envOfC "_law_margin" (defScope sMarginL) sh0.heap.objs.size f cdv)) := hr.mono (by decide)
    refine ⟨_, pss_one (ps_ret (w_tuple T.tuple (pe_cal CG hr (pa_cons (pe_lc (own := [("_law_lot", 3), ("_law_truth", 4), ("_law_share", 5)]) (g := gTup K 3 (gCons (gName 3) (gCons (gName 4) (gCons (gName 5) gNil)))) rfl scMarginL.nd (pi_tup (pv 1))
      (blkOk_by (own := [("_law_lot", 3), ("_law_truth", 4), ("_law_share", 5)]) (N := nMarginL) (sc := defScope sMarginL) (by decide +kernel))
      (fun _ _ _ _ _ => pg_tup rfl (pgs_cons (pg_name (i := 3) scMarginL.nd rfl (Or.inl rfl)) (pgs_cons (pg_name (i := 4) scMarginL.nd rfl (Or.inl rfl)) (pgs_cons (pg_name (i := 5) scMarginL.nd rfl (Or.inl rfl)) pgs_nil))))
      (fun _ _ _ _ _ => pts_nil)
      (fun _ _ _ _ _ => pe_tup (pa_cons (pe_cal CV hr2 (pa_cons (pv 0) (pa_cons (pv 2) (pa_cons (pv 3) (pa_cons (pv 4) pa_nil))))) (pa_cons (pv 5) pa_nil)))) pa_nil)))), ?_⟩
    obtain ⟨ps, xs, rfl, hps, hxs⟩ := hs.inv_tup
    have xl : xs.length = trs.length := by rw [hxs.length, List.length_map]
    have hlen := hd.len
    have T1 := hd.t1
    have tb : tot (marg qs ns trs) = t := by rw [tot_marg, hd.sum]
    have ml : (marg qs ns trs).length = trs.length := List.length_map _
    refine ⟨_, rfl, ps, rfl, ⟨_, hps⟩, fun D1 hD1 => ?_⟩
    refine lc_dataT (K := K) (S := []) (J := J0) (Pd := mapP trs fun x => prD t (valsD qs ns x.1.1 x.1.2, x.2)) (xs := xs) hps (by simp) hD1 hJ0 trivial mapP.zero (by omega) (fun i x hx => ?_) fun H1 acc ds k1 _ h1 nk1 pd hdl => ?_
    · intro H2 acc ds R N k2 _ h2 nk2 pd hdl hR hN
      obtain ⟨tr, htr, hn3⟩ := nkAll_map (triD t) hxs hx
      have hmem := List.mem_of_getElem? htr
      obtain ⟨a, lo, ro, sh, rfl, ha, hlo, hro, hsh⟩ := tri_at (hn3.tk k2.tk)
      refine ⟨a, _, rfl, ha, rfl, _, _, rfl, _, _, rfl, _, _, rfl, rfl, rfl, tYes_el ⟨_, rfl, _, rfl, _, rfl, _, rfl, q, nd, lo, ro, qs, ns, tr.1.1, tr.1.2, rfl, hq.tk k2.tk, hn.tk k2.tk, hlo, hro, fun n hnm => ⟨hns.mem n hnm, hd.row tr hmem, hd.qlen⟩, hns.len, fun v H3 k3 hv => ⟨_, rfl, (by show 2 ≤ sizeLine; decide), fun z hz => hR _ _ ⟨k3.trans (Kp.new hz), trivial, _, Nk.made (.cons hv (.cons (hsh.tk k3.tk) .nil)) hz, pd.step htr⟩⟩⟩⟩
    · obtain rfl := pd.done (by omega)
      have e : trs.map (fun x => prD t (valsD qs ns x.1.1 x.1.2, x.2)) = (marg qs ns trs).map (prD t) := by unfold marg; rw [List.map_map]; rfl
      rw [e] at nk1
      refine ⟨D1, acc, marg qs ns trs, t, rfl, SqL.of h1, nk1, hd.t0, T1, by omega, keysOk_marg qs ns trs, by omega, fun l' ys H' hl0 k0 hl1 nys => ?_⟩
      refine ⟨l', _, rfl, .inl ⟨SqL.of hl1, fun p hp => k _ _ (((Kp.drop hD1 k1).trans k0).trans (Kp.new hp)) ?_⟩⟩
      rw [marD_out hd]
      exact Nk.made nys hp
end
end Wb

namespace Wb
open PySem L2
open PyProof.Rows (envOfC)
open PySem.W (alike alikeAll AllAlike)

theorem op_catAK {X : Cx} {K : PySem.W.Frag} (hK : X.K = K) : OpR X (binaryOp .Add) (rCatA K) := by
  subst hK
  exact op_catA
section
variable {P : Program} {w : World} {K : PySem.W.Frag} {mg : Str → Option Value} {base : Heap}
/-- a tuple and one more item -/
theorem cat_snoc {H : Hp} {a b : Addr} {xs : List V} {y : V} {ds : List NestedKey} {d : NestedKey} {Q : VK} (ha : SqT K H a xs) (hb : SqT K H b [y]) (hx : NkAll K H xs ds) (hy : Nk K H y d) (hl : xs.length ≤ 1000)
    (q : ∀ r H', Kp [] H H' → Nk K H' r (.tup (ds ++ [d])) → Q r H') : rCatA K (.ref a) (.ref b) H Q := by
  refine ⟨a, b, xs, [y], rfl, rfl, ha, hb, ?_, fun e => q _ _ (Kp.refl _) ?_, fun _ e => absurd e (by simp), fun _ _ p hp => q _ _ (Kp.new hp) (Nk.made (NkAll.snoc hx hy) hp)⟩
  · rw [sizeLine_eq]; simp; omega
  · subst e
    have : ds = [] := List.eq_nil_of_length_eq_zero (by rw [← hx.length]; rfl)
    subst this
    exact Nk.tup hb (.cons hy .nil)
/-! ### _law_rows, _law_truths -/
/-- a row of so many numbers below 3 -/
def RowOk (n : Nat) (r : List Int) : Prop := r.length = n ∧ ∀ x ∈ r, 0 ≤ x ∧ x < 3
def spRows (K : PySem.W.Frag) : Sp := fun vs H Q _ => ∃ (l : Addr) (ss : List Nat), vs = [.ref l] ∧ SqL K H l (ss.map fun (n : Nat) => V.int (n : Int)) ∧ ss.length ≤ 3 ∧ (∀ n ∈ ss, 1 ≤ n ∧ n ≤ 3) ∧
  ∀ (f : Addr) (ys : List V) (rs : List (List Int)) (H' : Hp), H f = none → Kp [] H H' → H' f = some (.lst ys) → NkAll K H' ys (rs.map rowD) → (∀ r ∈ rs, RowOk ss.length r) → 1 ≤ rs.length → rs.length ≤ 27 → Q (.ref f) H'
abbrev pRows : List Str := ["_law_sizes"]
abbrev nRows : List Str := ["_law_sizes", "_law_found", "_law_size", "_law_longer", "_law_row", "_law_number"]
theorem scRows : FnScope nRows pRows (defScope sRows) := ⟨rfl, rfl, rfl, by decide +kernel, rfl, by decide +kernel, by decide +kernel⟩
theorem pow_le27 {i : Nat} (h : i ≤ 3) : 3 ^ i ≤ 27 := by
  match i, h with
  | 0, _ => decide
  | 1, _ => decide
  | 2, _ => decide
  | 3, _ => decide
theorem ok_rows (D : Df K mg "_law_rows" sRows pRows) (T : Txt mg) : Cal P w K mg base 1 "_law_rows" pRows (spRows K) := by
  refine cal_mk D scRows (fun vs H Q E h => ?_) (fun f cdv A outer sh0 H vs Q E hr h => ?_)
  · obtain ⟨l, ss, rfl, _⟩ := h
    rfl
  · obtain ⟨l, ss, rfl, hl, sl, sb, k⟩ := h
    refine ⟨_, pss_cons (ps_set (i := 1) scRows.nd rfl (Or.inl rfl) (pe_lst (pa_cons (pe_tup pa_nil) pa_nil)))
      (pss_cons (ps_for PassesOwn.never rfl (pi_list (pv 0)) (pg_name (i := 2) scRows.nd rfl (Or.inl rfl))
        (pss_cons (ps_set (i := 3) scRows.nd rfl (Or.inl rfl) (pe_lst pa_nil))
        (pss_cons (ps_for PassesOwn.never rfl (pi_list (pv 1)) (pg_name (i := 4) scRows.nd rfl (Or.inr rfl))
          (pss_one (ps_set (i := 3) scRows.nd rfl (Or.inl rfl) (pe_op op_cat (pv 3) (pe_lc (own := [("_law_number", 5)]) (g := gName 5) rfl scRows.nd (pi_range1 rfl T.range (pa_cons (pv 2) pa_nil))
            (blkOk_by (own := [("_law_number", 5)]) (N := nRows) (sc := defScope sRows) (by decide +kernel)) (fun _ _ _ _ _ => pg_name (i := 5) scRows.nd rfl (Or.inl rfl)) (fun _ _ _ _ _ => pts_nil)
            (fun _ _ _ _ _ => pe_op (op_catAK (K := K) rfl) (pv 4) (pe_tup (pa_cons (pv 5) pa_nil))))))))
        (pss_one (ps_set (i := 1) scRows.nd rfl (Or.inl rfl) (pv 3))))))
      (pss_one (ps_ret (pv 1)))), ?_⟩
    refine ⟨(by show 0 ≤ sizeLine; decide), fun p0 hp0 => ⟨(by show 1 ≤ sizeLine; decide), fun f0 hf0 => ?_⟩⟩
    have k0 := (Kp.new (S := []) hp0 (o := .tup [])).trans (Kp.new (S := []) hf0 (o := .lst [.ref p0]))
    have fr0 : H f0 = none := (Kp.new (S := []) hp0 (o := .tup [])).free (by simp) hf0
    refine ⟨_, rfl, l, rfl, ⟨_, SqL.kp hl k0 (by simp)⟩, for_list (K := K) (a := l) (xs := ss.map fun (n : Nat) => V.int (n : Int)) (fun i σ H' => ∃ (fd : Addr) (ys : List V) (rs : List (List Int)) (u2 u3 u4 : Option V), σ = [some (.ref l), some (.ref fd), u2, u3, u4, none] ∧ H fd = none ∧ Kp [] H H' ∧ H' fd = some (.lst ys) ∧ NkAll K H' ys (rs.map rowD) ∧ (∀ r ∈ rs, RowOk i r) ∧ 1 ≤ rs.length ∧ rs.length ≤ 3 ^ i ∧ i ≤ 3)
      ⟨f0, [.ref p0], [[]], none, none, none, rfl, fr0, k0, upd_same, ?_, ?_, Nat.le_refl _, Nat.le_refl _, Nat.zero_le _⟩ (fun i σ H' _ ⟨_, _, _, _, _, _, _, _, kp, _⟩ => SqL.kp hl kp (by simp)) ?_ ?_⟩
    · exact .cons ((Nk.made (K := K) (.nil) hp0).tk (Kp.new (S := []) hf0).tk) .nil
    · intro r hr
      rw [List.mem_singleton.mp hr]
      exact ⟨rfl, by simp⟩
    · rintro i x σ H' hx ⟨fd, ys, rs, u2, u3, u4, rfl, ffd, kp, hfd, nk, ro, r1, r27, i3⟩
      obtain ⟨n, hn, rfl⟩ : ∃ n : Nat, ss[i]? = some n ∧ V.int (n : Int) = x := by
        rw [List.getElem?_map] at hx
        exact Option.map_eq_some_iff.mp hx
      obtain ⟨n1, n3⟩ := sb n (List.mem_of_getElem? hn)
      have il : i < ss.length := (List.getElem?_eq_some_iff.mp hn).1
      have ysl : ys.length = rs.length := by rw [nk.length, List.length_map]
      have p27 := pow_le27 i3
      refine ⟨Nat.zero_le _, fun lg hlg => ?_⟩
      have klg := Kp.new (S := []) hlg (o := .lst [])
      refine ⟨_, rfl, fd, rfl, ⟨_, SqL.of (klg.st fd _ (by simp) hfd)⟩, for_list (K := K) (a := fd) (xs := ys) (fun j σ H2 => ∃ (g : Addr) (zs : List V) (qs : List (List Int)) (u4 : Option V), σ = [some (.ref l), some (.ref fd), some (.int (n : Int)), some (.ref g), u4, none] ∧ H g = none ∧ Kp [] H' H2 ∧ H2 g = some (.lst zs) ∧ NkAll K H2 zs (qs.map rowD) ∧ (∀ r ∈ qs, RowOk (i + 1) r) ∧ qs.length = j * n)
        ⟨lg, [], [], _, rfl, kp.free (by simp) hlg, klg, upd_same, .nil, by simp, by simp⟩ (fun j σ H2 _ ⟨_, _, _, _, _, _, kp2, _⟩ => SqL.kp (SqL.of hfd) kp2 (by simp)) ?_ ?_⟩
      · rintro j y σ H2 hy ⟨g, zs, qs, u4', rfl, fg, kp2, hg, nkz, rz, ql⟩
        obtain ⟨r, hr, hny⟩ := nkAll_map rowD nk hy
        have hrm := List.mem_of_getElem? hr
        have jl : j < ys.length := (List.getElem?_eq_some_iff.mp hy).1
        obtain ⟨py, rfl, hpy⟩ := row_at (hny.tk kp2.tk)
        have hrl : r.length ≤ 3 := by rw [(ro r hrm).1]; omega
        refine ⟨_, rfl, _, rfl, (n : Int), rfl, by omega, by omega, fun D1 hD1 => ?_⟩
        refine lc_dataR (K := K) (S := []) (J := J0) (Pd := mapP ((List.range n).map fun (k : Nat) => r ++ [(k : Int)]) rowD) (n := n) (by simp) hD1 hJ0 trivial mapP.zero (by omega) (fun m hm => ?_) fun H1 acc ds k1 _ h1 nk1 pd hdl => ?_
        · intro H3 acc ds R N k3 _ h3 nk3 pd hdl hR hN
          have hpy3 : SqT K H3 py (r.map V.int) := SqT.tk k3.tk hpy
          refine ⟨rfl, tYes_el ⟨_, rfl, _, rfl, (by show 1 ≤ sizeLine; decide), fun z hz => ?_⟩⟩
          refine cat_snoc (ds := r.map .num) (d := .num (m : Int)) (SqT.tk (Kp.new (S := []) hz).tk hpy3) (SqT.of upd_same) (nk_ints r) ?_ (by rw [List.length_map]; omega) fun v H4 k4 hv => hR _ _ ⟨(Kp.new (S := []) hz).trans k4, trivial, rowD (r ++ [(m : Int)]), ?_, pd.step ?_⟩
          · have e : (0 : Int) + (m : Int) = (m : Int) := by omega
            rw [e]
            exact .num _
          · unfold rowD
            rw [List.map_append]
            exact hv
          · rw [List.getElem?_map, List.getElem?_range hm]
            rfl
        · obtain rfl := pd.done (by simp)
          have kD : Kp [] H2 H1 := Kp.drop hD1 k1
          have e1 : acc.length = n := by rw [nk1.length]; simp
          have bnd : qs.length + n ≤ 1000 := by
            have : j * n ≤ 27 * 3 := Nat.mul_le_mul (by omega) n3
            omega
          refine ⟨g, D1, zs, acc, rfl, rfl, kD.st g _ (by simp) hg, h1, ?_, fun q hq => ?_⟩
          · rw [sizeLine_eq, nkz.length, e1, List.length_map]
            omega
          · have kq := Kp.new (S := []) hq (o := .lst (zs ++ acc))
            have kall := (kp2.trans kD)
            refine ⟨q, _, qs ++ (List.range n).map (fun (k : Nat) => r ++ [(k : Int)]), _, rfl, (kp.trans kall).free (by simp) hq, kall.trans kq, upd_same, ?_, fun z hz => ?_, ?_⟩
            · rw [List.map_append]
              exact NkAll.append ((NkAll.tk kD.tk nkz).tk kq.tk) (NkAll.tk kq.tk nk1)
            · rcases List.mem_append.mp hz with h | h
              · exact rz z h
              · obtain ⟨m, hm, rfl⟩ := List.mem_map.mp h
                have hm' := List.mem_range.mp hm
                refine ⟨by rw [List.length_append, (ro r hrm).1]; rfl, fun x hx => ?_⟩
                rcases List.mem_append.mp hx with h | h
                · exact (ro r hrm).2 x h
                · rw [List.mem_singleton.mp h]
                  omega
            · rw [List.length_append, List.length_map, List.length_range, ql, Nat.add_mul, Nat.one_mul]
      · rintro σ H2 ⟨g, zs, qs, u4', rfl, fg, kp2, hg, nkz, rz, ql⟩
        refine ⟨_, rfl, g, zs, qs, _, _, _, rfl, fg, kp.trans kp2, hg, nkz, rz, ?_, ?_, by omega⟩
        · rw [ql, ysl]
          exact Nat.mul_pos r1 n1
        · rw [ql, ysl, Nat.pow_succ]
          exact Nat.mul_le_mul r27 n3
    · rintro σ H' ⟨fd, ys, rs, u2, u3, u4, rfl, ffd, kp, hfd, nk, ro, r1, r27, i3⟩
      rw [List.length_map] at ro r27 i3
      exact ⟨_, rfl, k fd ys rs H' ffd kp hfd nk ro r1 (Nat.le_trans r27 (pow_le27 i3))⟩
/-- signs of a text, none of them out of all measure -/
def Sm (s : Str) : Prop := ∀ c ∈ s.cps.toList, c < 128
def NmOk (s : Str) : Prop := s.length ≤ 100 ∧ Sm s
/-- what is known of the questions -/
structure QsOk (qs : Qs) : Prop where
  l1 : 1 ≤ qs.length
  l3 : qs.length ≤ 3
  sz : ∀ q ∈ qs, 1 ≤ q.2 ∧ q.2 ≤ 3
  nm : ∀ q ∈ qs, NmOk q.1
def spTruths (K : PySem.W.Frag) : Sp := fun vs H Q _ => ∃ (q : V) (qs : Qs), vs = [q] ∧ Nk K H q (qsD qs) ∧ QsOk qs ∧
  ∀ (f : Addr) (ys : List V) (rs : List (List Int)) (H' : Hp), H f = none → Kp [] H H' → H' f = some (.lst ys) → NkAll K H' ys (rs.map rowD) → (∀ r ∈ rs, RowOk qs.length r) → 1 ≤ rs.length → rs.length ≤ 27 → Q (.ref f) H'
abbrev pQ : List Str := ["_law_questions_here"]
abbrev nQ : List Str := ["_law_questions_here", "_law_name", "_law_many"]
theorem scTruths : FnScope nQ pQ (defScope sTruths) := ⟨rfl, rfl, rfl, by decide +kernel, rfl, by decide +kernel, by decide +kernel⟩
theorem nums_of {H : Hp} {acc : List V} {qs : Qs} (h : NkAll K H acc (qs.map fun q => NestedKey.num (q.2 : Nat))) : acc = (qs.map (·.2)).map fun (n : Nat) => V.int (n : Int) := by
  have e : (qs.map fun q => NestedKey.num ((q.2 : Nat) : Int)) = (qs.map fun q => ((q.2 : Nat) : Int)).map .num := by rw [List.map_map]; rfl
  rw [e] at h
  rw [nkAll_ints h, List.map_map, List.map_map]
  rfl
theorem ok_truths (D : Df K mg "_law_truths" sTruths pQ) (T : Txt mg) (C : Cal P w K mg base 1 "_law_rows" pRows (spRows K)) : Cal P w K mg base 2 "_law_truths" pQ (spTruths K) := by
  refine cal_mk D scTruths (fun vs H Q E h => ?_) (fun f cdv A outer sh0 H vs Q E hr h => ?_)
  · obtain ⟨q, qs, rfl, _⟩ := h
    rfl
  · obtain ⟨q, qs, rfl, hq, ok, k⟩ := h
    refine ⟨_, pss_one (ps_ret (pe_cal C hr (pa_cons (pe_lc (own := [("_law_name", 1), ("_law_many", 2)]) (g := gTup K 2 (gCons (gName 1) (gCons (gName 2) gNil))) rfl scTruths.nd (pi_tup (pv 0)) (blkOk_by (own := [("_law_name", 1), ("_law_many", 2)]) (N := nQ) (sc := defScope sTruths) (by decide +kernel))
          (fun _ _ _ _ _ => pg_tup rfl (pgs_cons (pg_name (i := 1) scTruths.nd rfl (Or.inl rfl)) (pgs_cons (pg_name (i := 2) scTruths.nd rfl (Or.inl rfl)) pgs_nil))) (fun _ _ _ _ _ => pts_nil) (fun _ _ _ _ _ => pv 2)) pa_nil))), ?_⟩
    obtain ⟨pq, xs, rfl, hpq, hxl, hxq⟩ := q_at hq
    have l3 := ok.l3
    refine ⟨_, rfl, pq, rfl, ⟨_, hpq⟩, fun D1 hD1 => ?_⟩
    refine lc_dataT (K := K) (S := []) (J := J0) (Pd := mapP qs fun q => .num (q.2 : Nat)) (xs := xs) hpq (by simp) hD1 hJ0 trivial mapP.zero (by omega) (fun i x hx => ?_) fun H1 acc ds k1 _ h1 nk pd hdl => ?_
    · intro H2 acc ds R N k2 _ h2 nk pd hdl hR hN
      obtain ⟨q, hq2, p, rfl, hp⟩ := hxq i x hx
      exact ⟨p, _, rfl, SqT.tk k2.tk hp, rfl, _, _, rfl, _, _, rfl, rfl, rfl, tYes_el ⟨_, rfl, hR _ _ ⟨Kp.refl _, trivial, _, .num _, pd.step hq2⟩⟩⟩
    · obtain rfl := pd.done (by omega)
      have kD := Kp.drop hD1 k1
      rw [nums_of nk] at h1
      refine ⟨D1, qs.map (·.2), rfl, SqL.of h1, by rw [List.length_map]; exact l3, fun n hn => ?_, fun f ys rs H' hf kp hf2 nkr ro r1 r27 => ?_⟩
      · obtain ⟨q, hq, rfl⟩ := List.mem_map.mp hn
        exact ok.sz q hq
      · rw [List.length_map] at ro
        exact k f ys rs H' (kD.free (by simp) hf) (kD.trans kp) hf2 nkr ro r1 r27
end
end Wb

namespace Wb
open PySem L2
open PyProof.Rows (envOfC)
open PySem.W (alike alikeAll AllAlike)

section
variable {P : Program} {w : World} {K : PySem.W.Frag} {mg : Str → Option Value} {base : Heap}
/-! ### _law_within, _law_lots -/
/-- a lot of some names -/
def LotOk (names l : List Str) : Prop := l.length ≤ 3 ∧ ∀ x ∈ l, x ∈ names
def spWithin (K : PySem.W.Frag) : Sp := fun vs H Q _ => ∃ (v : V) (names : List Str), vs = [v] ∧ Nk K H v (lotD names) ∧ names.length ≤ 3 ∧
  ∀ (f : Addr) (ys : List V) (ls : List (List Str)) (H' : Hp), H f = none → Kp [] H H' → H' f = some (.lst ys) → NkAll K H' ys (ls.map lotD) → (∀ l ∈ ls, LotOk names l) → 1 ≤ ls.length → ls.length ≤ 8 → Q (.ref f) H'
abbrev pWithin : List Str := ["_law_lot"]
abbrev nWithin : List Str := ["_law_lot", "_law_found", "_law_name", "_law_one"]
theorem scWithin : FnScope nWithin pWithin (defScope sWithin) := ⟨rfl, rfl, rfl, by decide +kernel, rfl, by decide +kernel, by decide +kernel⟩
theorem pow_le8 {i : Nat} (h : i ≤ 3) : 2 ^ i ≤ 8 := by
  match i, h with
  | 0, _ => decide
  | 1, _ => decide
  | 2, _ => decide
  | 3, _ => decide
theorem ok_within (D : Df K mg "_law_within" sWithin pWithin) (T : Txt mg) : Cal P w K mg base 1 "_law_within" pWithin (spWithin K) := by
  refine cal_mk D scWithin (fun vs H Q E h => ?_) (fun f cdv A outer sh0 H vs Q E hr h => ?_)
  · obtain ⟨v, names, rfl, _⟩ := h
    rfl
  · obtain ⟨v, names, rfl, hv, n3, k⟩ := h
    have hu2 : (A.deeper (envOfC "_law_within" (defScope sWithin) sh0.heap.objs.size f cdv)).units + 128 < cLine := by have := hr.un; omega
    refine ⟨_, pss_cons (ps_set (i := 1) scWithin.nd rfl (Or.inl rfl) (pe_lst (pa_cons (pe_tup pa_nil) pa_nil)))
      (pss_cons (ps_for PassesOwn.never rfl (pi_tup (pv 0)) (pg_name (i := 2) scWithin.nd rfl (Or.inr rfl))
        (pss_one (ps_set (i := 1) scWithin.nd rfl (Or.inl rfl) (pe_op op_cat (pv 1) (pe_lc (own := [("_law_one", 3)]) (g := gName 3) rfl scWithin.nd (pi_list (pv 1))
          (blkOk_by (own := [("_law_one", 3)]) (N := nWithin) (sc := defScope sWithin) (by decide +kernel)) (fun _ _ _ _ _ => pg_name (i := 3) scWithin.nd rfl (Or.inl rfl)) (fun _ _ _ _ _ => pts_nil)
            (fun _ _ _ _ _ => pe_op (op_catAK (K := K) rfl) (pv 3) (pe_tup (pa_cons (pv 2) pa_nil))))))))
      (pss_one (ps_ret (pe_callB (cr_sortedE hu2) rfl T.sorted PyProof.Rows.boot_sorted (pa_cons (pv 1) pa_nil))))), ?_⟩
    obtain ⟨pl, rfl, hpl⟩ := lot_at hv
    refine ⟨(by show 0 ≤ sizeLine; decide), fun p0 hp0 => ⟨(by show 1 ≤ sizeLine; decide), fun f0 hf0 => ?_⟩⟩
    have k0 := (Kp.new (S := []) hp0 (o := .tup [])).trans (Kp.new (S := []) hf0 (o := .lst [.ref p0]))
    have fr0 : H f0 = none := (Kp.new (S := []) hp0 (o := .tup [])).free (by simp) hf0
    refine ⟨_, rfl, pl, rfl, ⟨_, SqT.tk k0.tk hpl⟩, for_tup (K := K) (a := pl) (xs := names.map V.str) (fun i σ H' => ∃ (fd : Addr) (ys : List V) (ds : List (List Str)) (u2 : Option V), σ = [some (.ref pl), some (.ref fd), u2, none] ∧ H fd = none ∧ Kp [] H H' ∧ H' fd = some (.lst ys) ∧ NkAll K H' ys (([] :: ds).map lotD) ∧ (∀ d ∈ ds, d.length ≤ i ∧ ∀ x ∈ d, x ∈ names) ∧ ds.length + 1 = 2 ^ i ∧ i ≤ 3)
      ⟨f0, [.ref p0], [], none, rfl, fr0, k0, upd_same, ?_, by simp, rfl, Nat.zero_le _⟩ (fun i σ H' _ ⟨_, _, _, _, _, _, kp, _⟩ => SqT.tk kp.tk hpl) ?_ ?_⟩
    · exact .cons ((Nk.made (K := K) (.nil) hp0).tk (Kp.new (S := []) hf0).tk) .nil
    · rintro i x σ H' hx ⟨fd, ys, ds, u2, rfl, ffd, kp, hfd, nk, ro, r2, i3⟩
      obtain ⟨nm, hn, rfl⟩ := strs_at hx
      have il : i < names.length := (List.getElem?_eq_some_iff.mp hn).1
      have ysl : ys.length = 2 ^ i := by rw [nk.length, List.length_map, List.length_cons, r2]
      have p8 := pow_le8 i3
      refine ⟨_, rfl, _, rfl, fd, rfl, ⟨_, SqL.of hfd⟩, fun D1 hD1 => ?_⟩
      refine lc_dataL (K := K) (S := []) (J := J0) (Pd := mapP (([] :: ds : List (List Str)).map fun d => d ++ [nm]) lotD) (xs := ys) (SqL.of hfd) (by simp) (by simp) hD1 hJ0 trivial mapP.zero (by omega) (fun m y hy => ?_) fun H1 acc es k1 _ h1 nk1 pd hdl => ?_
      · intro H3 acc es R N k3 _ h3 nk3 pd hdl hR hN
        obtain ⟨d, hd, hny⟩ := nkAll_map lotD nk hy
        have hdm := List.mem_of_getElem? hd
        have hdl3 : d.length ≤ 3 := by
          rcases List.mem_cons.mp hdm with e | e
          · rw [e]; exact Nat.zero_le _
          · have := (ro d e).1; omega
        obtain ⟨py, rfl, hpy⟩ := lot_at (hny.tk k3.tk)
        refine ⟨rfl, tYes_el ⟨_, rfl, _, rfl, (by show 1 ≤ sizeLine; decide), fun z hz => ?_⟩⟩
        refine cat_snoc (ds := d.map .text) (d := .text nm) (SqT.tk (Kp.new (S := []) hz).tk hpy) (SqT.of upd_same) (nk_texts d) (.text _) (by rw [List.length_map]; omega) fun v H4 k4 hv => hR _ _ ⟨(Kp.new (S := []) hz).trans k4, trivial, lotD (d ++ [nm]), ?_, pd.step ?_⟩
        · unfold lotD
          rw [List.map_append]
          exact hv
        · rw [List.getElem?_map, hd]
          rfl
      · obtain rfl := pd.done (by rw [List.length_map, List.length_cons, r2, ysl]; exact Nat.le_refl _)
        have kD : Kp [] H' H1 := Kp.drop hD1 k1
        have e1 : acc.length = 2 ^ i := by rw [nk1.length, List.length_map, List.length_map, List.length_cons, r2]
        refine ⟨fd, D1, ys, acc, rfl, rfl, kD.st fd _ (by simp) hfd, h1, ?_, fun q hq => ?_⟩
        · rw [sizeLine_eq, ysl, e1]
          omega
        · have kq := Kp.new (S := []) hq (o := .lst (ys ++ acc))
          refine ⟨q, ys ++ acc, ds ++ ([] :: ds : List (List Str)).map (fun d => d ++ [nm]), _, rfl, (kp.trans kD).free (by simp) hq, (kp.trans kD).trans kq, upd_same, ?_, fun z hz => ?_, ?_, by omega⟩
          · rw [show ([] :: (ds ++ ([] :: ds : List (List Str)).map (fun d => d ++ [nm]))) = ([] :: ds) ++ ([] :: ds : List (List Str)).map (fun d => d ++ [nm]) from rfl, List.map_append]
            exact NkAll.append ((NkAll.tk kD.tk nk).tk kq.tk) (NkAll.tk kq.tk nk1)
          · have nmm : nm ∈ names := List.mem_of_getElem? hn
            rcases List.mem_append.mp hz with h | h
            · have := ro z h
              exact ⟨by omega, this.2⟩
            · obtain ⟨d, hd, rfl⟩ := List.mem_map.mp h
              have hd2 : d.length ≤ i ∧ ∀ x ∈ d, x ∈ names := by
                rcases List.mem_cons.mp hd with e | e
                · rw [e]; exact ⟨Nat.zero_le _, by simp⟩
                · exact ro d e
              refine ⟨by rw [List.length_append, List.length_singleton]; omega, fun x hx => ?_⟩
              rcases List.mem_append.mp hx with h | h
              · exact hd2.2 x h
              · rw [List.mem_singleton.mp h]; exact nmm
          · rw [List.length_append, List.length_map, List.length_cons, r2, Nat.pow_succ]
            omega
    · rintro σ H' ⟨fd, ys, ds, u2, rfl, ffd, kp, hfd, nk, ro, r2, i3⟩
      rw [List.length_map] at ro r2 i3
      have p8 := pow_le8 i3
      have em : (([] :: ds.map (·.map NestedKey.text)).map NestedKey.tup) = ([] :: ds).map lotD := by
        show _ :: _ = _ :: _
        rw [List.map_map]
        rfl
      refine ⟨_, rfl, fd, ys, ds.map (·.map .text), rfl, SqL.of hfd, by rw [em]; exact nk, ?_, fun d hd => ?_, by rw [List.length_map]; omega, fun p zs es hp pe nkz => ?_⟩
      · rw [em]
        intro d hd d' hd'
        obtain ⟨x, hx, rfl⟩ := List.mem_map.mp hd
        obtain ⟨x', hx', rfl⟩ := List.mem_map.mp hd'
        obtain ⟨l, _, rfl⟩ := List.mem_map.mp hx
        obtain ⟨l', _, rfl⟩ := List.mem_map.mp hx'
        exact lot_alike l l'
      · obtain ⟨l, _, rfl⟩ := List.mem_map.mp hd
        rw [depths_texts]
        exact Nat.zero_le _
      · obtain ⟨ls, rfl, hls⟩ := lift_all (f := fun l : List Str => l.map NestedKey.text) (Pr := LotOk names) (l := es) (fun b hb => by
          have hb2 := pe.mem_iff.mp hb
          rcases List.mem_cons.mp hb2 with e | e
          · exact ⟨[], by rw [e]; rfl, Nat.zero_le _, by simp⟩
          · obtain ⟨l, hl, rfl⟩ := List.mem_map.mp e
            have := ro l hl
            exact ⟨l, rfl, by omega, this.2⟩)
        have hlen := pe.length_eq
        rw [List.length_map, List.length_cons, List.length_map, r2] at hlen
        rw [List.map_map] at nkz
        refine k p zs ls _ (kp.free (by simp) hp) (kp.trans (Kp.new hp)) upd_same (NkAll.tk (Kp.new (S := []) hp).tk nkz) hls ?_ (by omega)
        rw [hlen]
        exact Nat.two_pow_pos _
def spLots (K : PySem.W.Frag) : Sp := fun vs H Q _ => ∃ (q : V) (qs : Qs), vs = [q] ∧ Nk K H q (qsD qs) ∧ QsOk qs ∧
  ∀ (f : Addr) (ys : List V) (ls : List (List Str)) (H' : Hp), H f = none → Kp [] H H' → H' f = some (.lst ys) → NkAll K H' ys (ls.map lotD) → (∀ l ∈ ls, LotOk (qs.map (·.1)) l) → 1 ≤ ls.length → ls.length ≤ 8 → Q (.ref f) H'
theorem scLots : FnScope nQ pQ (defScope sLots) := ⟨rfl, rfl, rfl, by decide +kernel, rfl, by decide +kernel, by decide +kernel⟩
theorem ok_lots (D : Df K mg "_law_lots" sLots pQ) (T : Txt mg) (C : Cal P w K mg base 1 "_law_within" pWithin (spWithin K)) : Cal P w K mg base 2 "_law_lots" pQ (spLots K) := by
  refine cal_mk D scLots (fun vs H Q E h => ?_) (fun f cdv A outer sh0 H vs Q E hr h => ?_)
  · obtain ⟨q, qs, rfl, _⟩ := h
    rfl
  · obtain ⟨q, qs, rfl, hq, ok, k⟩ := h
    refine ⟨_, pss_one (ps_ret (pe_cal C hr (pa_cons (w_tuple T.tuple (pe_lc (own := [("_law_name", 1), ("_law_many", 2)]) (g := gTup K 2 (gCons (gName 1) (gCons (gName 2) gNil))) rfl scLots.nd (pi_tup (pv 0)) (blkOk_by (own := [("_law_name", 1), ("_law_many", 2)]) (N := nQ) (sc := defScope sLots) (by decide +kernel))
          (fun _ _ _ _ _ => pg_tup rfl (pgs_cons (pg_name (i := 1) scLots.nd rfl (Or.inl rfl)) (pgs_cons (pg_name (i := 2) scLots.nd rfl (Or.inl rfl)) pgs_nil))) (fun _ _ _ _ _ => pts_nil) (fun _ _ _ _ _ => pv 1))) pa_nil))), ?_⟩
    obtain ⟨pq, xs, rfl, hpq, hxl, hxq⟩ := q_at hq
    have l3 := ok.l3
    refine ⟨_, rfl, pq, rfl, ⟨_, hpq⟩, fun D1 hD1 => ?_⟩
    refine lc_dataT (K := K) (S := []) (J := J0) (Pd := mapP (qs.map (·.1)) .text) (xs := xs) hpq (by simp) hD1 hJ0 trivial mapP.zero (by omega) (fun i x hx => ?_) fun H1 acc ds k1 _ h1 nk pd hdl => ?_
    · intro H2 acc ds R N k2 _ h2 nk pd hdl hR hN
      obtain ⟨q, hq2, p, rfl, hp⟩ := hxq i x hx
      exact ⟨p, _, rfl, SqT.tk k2.tk hp, rfl, _, _, rfl, _, _, rfl, rfl, rfl, tYes_el ⟨_, rfl, hR _ _ ⟨Kp.refl _, trivial, _, .text _, pd.step (by rw [List.getElem?_map, hq2]; rfl)⟩⟩⟩
    · obtain rfl := pd.done (by rw [List.length_map]; omega)
      have kD := Kp.drop hD1 k1
      refine ⟨D1, _, rfl, .inl ⟨SqL.of h1, fun p hp => ?_⟩⟩
      have kp := Kp.new (S := []) hp (o := .tup acc)
      refine ⟨.ref p, qs.map (·.1), rfl, Nk.made nk hp, by rw [List.length_map]; exact l3, fun f ys rs H' hf kp2 hf2 nkr ro r1 r27 => ?_⟩
      exact k f ys rs H' ((kD.trans kp).free (by simp) hf) ((kD.trans kp).trans kp2) hf2 nkr ro r1 r27
/-! ### _law_nodes -/
def allNodes (qs : Qs) : List Node := qs.map (fun q => (false, q.1)) ++ qs.map fun q => (true, q.1)
def spNodes (K : PySem.W.Frag) : Sp := fun vs H Q _ => ∃ (q : V) (qs : Qs), vs = [q] ∧ Nk K H q (qsD qs) ∧ QsOk qs ∧
  ∀ (f : Addr) (ys : List V) (H' : Hp), H f = none → Kp [] H H' → H' f = some (.lst ys) → NkAll K H' ys ((allNodes qs).map nodeD) → Q (.ref f) H'
theorem scNodes : FnScope nQ pQ (defScope sNodes) := ⟨rfl, rfl, rfl, by decide +kernel, rfl, by decide +kernel, by decide +kernel⟩
theorem ok_nodes (D : Df K mg "_law_nodes" sNodes pQ) : Cal P w K mg base 1 "_law_nodes" pQ (spNodes K) := by
  refine cal_mk D scNodes (fun vs H Q E h => ?_) (fun f cdv A outer sh0 H vs Q E hr h => ?_)
  · obtain ⟨q, qs, rfl, _⟩ := h
    rfl
  · obtain ⟨q, qs, rfl, hq, ok, k⟩ := h
    refine ⟨_, pss_one (ps_ret (pe_op op_cat
        (pe_lc (own := [("_law_name", 1), ("_law_many", 2)]) (g := gTup K 2 (gCons (gName 1) (gCons (gName 2) gNil))) rfl scNodes.nd (pi_tup (pv 0)) (blkOk_by (own := [("_law_name", 1), ("_law_many", 2)]) (N := nQ) (sc := defScope sNodes) (by decide +kernel))
          (fun _ _ _ _ _ => pg_tup rfl (pgs_cons (pg_name (i := 1) scNodes.nd rfl (Or.inl rfl)) (pgs_cons (pg_name (i := 2) scNodes.nd rfl (Or.inl rfl)) pgs_nil))) (fun _ _ _ _ _ => pts_nil) (fun _ _ _ _ _ => pe_tup (pa_cons pe_str (pa_cons (pv 1) pa_nil))))
        (pe_lc (own := [("_law_name", 1), ("_law_many", 2)]) (g := gTup K 2 (gCons (gName 1) (gCons (gName 2) gNil))) rfl scNodes.nd (pi_tup (pv 0)) (blkOk_by (own := [("_law_name", 1), ("_law_many", 2)]) (N := nQ) (sc := defScope sNodes) (by decide +kernel))
          (fun _ _ _ _ _ => pg_tup rfl (pgs_cons (pg_name (i := 1) scNodes.nd rfl (Or.inl rfl)) (pgs_cons (pg_name (i := 2) scNodes.nd rfl (Or.inl rfl)) pgs_nil))) (fun _ _ _ _ _ => pts_nil) (fun _ _ _ _ _ => pe_tup (pa_cons pe_str (pa_cons (pv 1) pa_nil)))))), ?_⟩
    obtain ⟨pq, xs, rfl, hpq, hxl, hxq⟩ := q_at hq
    have l3 := ok.l3
    refine ⟨_, rfl, pq, rfl, ⟨_, hpq⟩, fun D1 hD1 => ?_⟩
    refine lc_dataT (K := K) (S := []) (J := J0) (Pd := mapP (qs.map fun q => ((false, q.1) : Node)) nodeD) (xs := xs) hpq (by simp) hD1 hJ0 trivial mapP.zero (by omega) (fun i x hx => ?_) fun H1 acc ds k1 _ h1 nk pd hdl => ?_
    · intro H2 acc ds R N k2 _ h2 nk pd hdl hR hN
      obtain ⟨q, hq2, p, rfl, hp⟩ := hxq i x hx
      refine ⟨p, _, rfl, SqT.tk k2.tk hp, rfl, _, _, rfl, _, _, rfl, rfl, rfl, tYes_el ⟨_, rfl, (by show 2 ≤ sizeLine; decide), fun z hz => hR _ _ ⟨Kp.new hz, trivial, nodeD (false, q.1), ?_, pd.step (by rw [List.getElem?_map, hq2]; rfl)⟩⟩⟩
      exact Nk.made (.cons (.text _) (.cons (.text _) .nil)) hz
    · obtain rfl := pd.done (by rw [List.length_map]; omega)
      have kD := Kp.drop hD1 k1
      have hpq1 := SqT.tk kD.tk hpq
      refine ⟨_, rfl, pq, rfl, ⟨_, hpq1⟩, fun D2 hD2 => ?_⟩
      refine lc_dataT (K := K) (S := []) (J := J0) (Pd := mapP (qs.map fun q => ((true, q.1) : Node)) nodeD) (xs := xs) hpq1 (by simp) hD2 hJ0 trivial mapP.zero (by omega) (fun i x hx => ?_) fun H2 acc2 ds k2 _ h2 nk2 pd hdl => ?_
      · intro H2 acc ds R N k2 _ h2 nk pd hdl hR hN
        obtain ⟨q, hq2, p, rfl, hp⟩ := hxq i x hx
        refine ⟨p, _, rfl, SqT.tk k2.tk (SqT.tk kD.tk hp), rfl, _, _, rfl, _, _, rfl, rfl, rfl, tYes_el ⟨_, rfl, (by show 2 ≤ sizeLine; decide), fun z hz => hR _ _ ⟨Kp.new hz, trivial, nodeD (true, q.1), ?_, pd.step (by rw [List.getElem?_map, hq2]; rfl)⟩⟩⟩
        exact Nk.made (.cons (.text _) (.cons (.text _) .nil)) hz
      · obtain rfl := pd.done (by rw [List.length_map]; omega)
        have kD2 := Kp.drop hD2 k2
        refine ⟨D1, D2, acc, acc2, rfl, rfl, kD2.st D1 _ (by simp) h1, h2, ?_, fun p hp => ?_⟩
        · rw [sizeLine_eq, nk.length, nk2.length]
          simp only [List.length_map]
          omega
        · have kq := Kp.new (S := []) hp (o := .lst (acc ++ acc2))
          refine k p _ _ ((kD.trans kD2).free (by simp) hp) ((kD.trans kD2).trans kq) upd_same ?_
          unfold allNodes
          rw [List.map_append]
          exact NkAll.append ((NkAll.tk kD2.tk nk).tk kq.tk) (NkAll.tk kq.tk nk2)
theorem nodes_mem {qs : Qs} : ∀ n ∈ allNodes qs, n.2 ∈ qs.map (·.1) := fun n hn => by
  rcases List.mem_append.mp hn with h | h
  · obtain ⟨q, hq, rfl⟩ := List.mem_map.mp h
    exact List.mem_map.mpr ⟨q, hq, rfl⟩
  · obtain ⟨q, hq, rfl⟩ := List.mem_map.mp h
    exact List.mem_map.mpr ⟨q, hq, rfl⟩
end
end Wb

namespace Wb
open PySem L2
open PyProof.Rows (envOfC)

theorem Kp.own {S : List Addr} {H H1 : Hp} {p : Addr} {xs : List V} {o : HO} (k : Kp S H H1) (hf : H p = none) (h : H1 p = some (.lst xs)) : Kp S H (L2.upd H1 p o) :=
  Kp.drop hf ((k.mono fun c h => List.mem_cons_of_mem _ h).trans (Kp.lst (by simp) h))
theorem sl_listK {X : Cx} {K : PySem.W.Frag} (hK : X.K = K) : SlR X (rSlL K) := by
  subst hK
  exact sl_list
section
variable {X : Cx} {p pos apos : Pos} {e o : Expr} {te to : TE}
theorem pe_joinK {K : PySem.W.Frag} (hK : X.K = K) (ho : PE X o to) (he : PE X e te) (hs : starEach [e] X.env = [(false, eval e X.env)] := by rfl) (hbase : attributeBase o "join" X.env (eval o X.env) = eval o X.env := by rfl) (hline : (apos.endLine == pos.line) = true := by rfl) :
    PE X (.Call (.Attribute o "join" apos) [e] [] pos) (tM1 (fun x xs H Q => ∃ a p, ∃ ys : List Str, x = .str a ∧ xs = [.ref p] ∧ (SqL K H p (ys.map V.str) ∨ SqT K H p (ys.map V.str)) ∧
      (ys.map (·.length)).sum + ys.length * a.length ≤ 16777216 ∧ Q (.str (Txt.join a ys)) H) to te) := by
  subst hK
  exact pe_join ho he hs hbase hline
theorem w_lenK {K : PySem.W.Frag} (hK : X.K = K) (m : X.mg "len" = none) (h : PE X e te) (hg : Gl X "len" := by rfl) (he : starEach [e] X.env = (false, eval e X.env) :: starEach [] X.env := by rfl) : PE X (.Call (.Name "len" p) [e] [] pos) (tCB (fun xs H Q => ∃ p ys, xs = [.ref p] ∧ (SqL K H p ys ∨ SqT K H p ys) ∧ Q (.int ys.length) H) (tCons te tNil)) := by
  subst hK
  exact w_len m h hg he
theorem w_listStr (hc : X.calm = true) (m : X.mg "list" = none) (h : PE X e te) (hg : Gl X "list" := by rfl) (he : starEach [e] X.env = (false, eval e X.env) :: starEach [] X.env := by rfl) : PE X (.Call (.Name "list" p) [e] [] pos) (tCB (fun vs H Q => ∃ x : Str, vs = [.str x] ∧ x.length ≤ 1000 ∧ ∀ l, H l = none → Q (.ref l) (L2.upd H l (.lst (chars x)))) (tCons te tNil)) :=
  pe_callTy (cr_listStr hc) hg m PyProof.Rows.boot_list (pa_cons h pa_nil he) (by decide) (by decide) he rfl
end
/-- texts of which each is of a kind, as many as turns -/
def strsP (p : Str → Prop) (i : Nat) (ds : List NestedKey) : Prop := ∃ ss : List Str, ds = ss.map .text ∧ ss.length = i ∧ ∀ s ∈ ss, p s
theorem strsP.zero {p : Str → Prop} : strsP p 0 [] := ⟨[], rfl, rfl, by simp⟩
theorem strsP.snoc {p : Str → Prop} {i : Nat} {ds : List NestedKey} {s : Str} (h : strsP p i ds) (hs : p s) : strsP p (i + 1) (ds ++ [.text s]) := by
  obtain ⟨ss, rfl, hl, hp⟩ := h
  refine ⟨ss ++ [s], by simp, by simp [hl], fun x hx => ?_⟩
  rcases List.mem_append.mp hx with h | h
  · exact hp x h
  · rw [List.mem_singleton.mp h]; exact hs
theorem erase_map : ∀ (ps : List Str) (k : Nat), (ps.map V.str).eraseIdx k = (ps.eraseIdx k).map V.str
  | [], _ => rfl
  | _ :: _, 0 => rfl
  | p :: ps, k + 1 => by
    show V.str p :: (ps.map V.str).eraseIdx k = V.str p :: (ps.eraseIdx k).map V.str
    rw [erase_map ps k]
theorem cut_strs (ss : List Str) (lo hi : Option Int) : ∃ ys : List Str, cutV (ss.map V.str) lo hi = ys.map V.str ∧ (∀ s ∈ ys, s ∈ ss) ∧ ys.length ≤ ss.length := by
  refine ⟨(ss.drop (HT.sIx (ss.map V.str).length 0 lo)).take (HT.sIx (ss.map V.str).length (ss.map V.str).length hi - HT.sIx (ss.map V.str).length 0 lo), ?_, fun s hs => List.mem_of_mem_drop (List.mem_of_mem_take hs), ?_⟩
  · unfold cutV
    rw [List.map_take, List.map_drop]
  · rw [List.length_take, List.length_drop]
    omega
theorem ones_sum : ∀ {ys : List Str}, (∀ s ∈ ys, s.length = 1) → (ys.map (·.length)).sum = ys.length
  | [], _ => rfl
  | y :: ys, h => by
    rw [List.map_cons, List.sum_cons, ones_sum fun s hs => h s (List.mem_cons_of_mem _ hs), h y (by simp), List.length_cons]
    omega
theorem nil_len : ("" : Str).length = 0 := by decide +kernel
theorem join_ones {ys : List Str} (h : ∀ s ∈ ys, s.length = 1) : (Txt.join ("" : Str) ys).length ≤ ys.length := by
  show (Builtin.Str.glued ("" : Str) ys).length ≤ _
  rw [StrLaws.glued_eq_join]
  have := StrLaws.join_length_le ("" : Str) ys
  rw [ones_sum h, nil_len] at this
  omega
abbrev abc : Str := "abcdefghijklmnopqrstuvwxyz"
theorem abc_len : abc.length = 26 := by decide +kernel
theorem abc_small : ∀ c ∈ abc.cps.toList, c < 128 := by decide +kernel
/-- a text of one sign -/
def One (s : Str) : Prop := s.length = 1 ∧ Sm s
theorem Sm.app {a b : Str} (h : Sm a) (k : Sm b) : Sm (a ++ b) := fun c hc => by
  rw [Str.cps_append, Array.toList_append] at hc
  rcases List.mem_append.mp hc with q | q
  · exact h c q
  · exact k c q
theorem Sm.nil : Sm ("" : Str) := by
  have : ("" : Str).cps.toList = [] := by decide +kernel
  intro c hc
  rw [this] at hc
  cases hc
theorem Sm.joinS : ∀ {ys : List Str}, (∀ s ∈ ys, Sm s) → Sm (Str.join ("" : Str) ys)
  | [], _ => Sm.nil
  | [y], h => h y (by simp)
  | y :: z :: r, h => by
    show Sm (y ++ ("" : Str) ++ Str.join ("" : Str) (z :: r))
    exact ((h y (by simp)).app Sm.nil).app (Sm.joinS fun s hs => h s (List.mem_cons_of_mem _ hs))
theorem Sm.join {ys : List Str} (h : ∀ s ∈ ys, Sm s) : Sm (Txt.join ("" : Str) ys) := by
  show Sm (Builtin.Str.glued ("" : Str) ys)
  rw [StrLaws.glued_eq_join]
  exact Sm.joinS h
theorem One.of {c : Nat} (h : c ∈ abc.cps.toList) : One ⟨#[c]⟩ := ⟨rfl, fun d hd => by
  have hd' : d ∈ [c] := hd
  rw [List.mem_singleton.mp hd']
  exact abc_small c h⟩
theorem abc_chars : ∃ ss : List Str, chars abc = ss.map V.str ∧ ss.length = 26 ∧ ∀ s ∈ ss, One s := by
  refine ⟨abc.cps.toList.map fun c => (⟨#[c]⟩ : Str), ?_, ?_, fun s hs => ?_⟩
  · unfold chars
    rw [List.map_map]
    rfl
  · rw [List.length_map, Array.length_toList]
    exact abc_len
  · obtain ⟨c, hc, rfl⟩ := List.mem_map.mp hs
    exact One.of hc

section
variable {P : Program} {w : World} {K : PySem.W.Frag} {mg : Str → Option Value} {base : Heap}
/-! ### _law_names -/
def spNames : Sp := fun vs H Q _ => ∃ (a b : Addr) (m : Int), vs = [.ref a, .int m] ∧ Deal H a b ∧ 1 ≤ m ∧ m ≤ 3 ∧
  ∀ (f : Addr) (ns : List Str) (H' : Hp), H f = none → Kp [a, b] H H' → Deal H' a b → H' f = some (.lst (ns.map V.str)) → (ns.length : Int) = m → (∀ s ∈ ns, NmOk s) → Q (.ref f) H'
abbrev pNames : List Str := ["_law_deal_here", "_law_many"]
abbrev nNames : List Str := ["_law_deal_here", "_law_many", "_law_letters", "_law_row", "_law_pool", "_law_base", "_law_place", "_law_at", "_law_one"]
theorem scNames : FnScope nNames pNames (defScope sNames) := ⟨rfl, rfl, rfl, by decide +kernel, rfl, by decide +kernel, by decide +kernel⟩
abbrev pAny : List Str := ["_law_deal_here", "_law_bound"]
abbrev pOf : List Str := ["_law_deal_here", "_law_some"]
theorem ok_names (D : Df K mg "_law_names" sNames pNames) (T : Txt mg) (CA : Cal P w K mg base 1 "_law_any" pAny spAny) (CO : Cal P w K mg base 2 "_law_of" pOf spOf) : Cal P w K mg base 3 "_law_names" pNames spNames := by
  refine cal_mk D scNames (fun vs H Q E h => ?_) (fun f cdv A outer sh0 H vs Q E hr h => ?_)
  · obtain ⟨a, b, m, rfl, _⟩ := h
    rfl
  · obtain ⟨a, b, m, rfl, d0, m1, m3, k⟩ := h
    have hr1 : Room 1 (A.deeper (envOfC "_law_names" (defScope sNames) sh0.heap.objs.size f cdv)) := hr.mono (by decide)
    refine ⟨_, pss_cons (ps_set (i := 2) scNames.nd rfl (Or.inr rfl) pe_str)
      (pss_cons (ps_par (i := 3) (j := 4) rfl scNames.nd rfl rfl (by decide) rfl rfl (pa_cons (pe_lst pa_nil) (pa_cons (w_listStr rfl T.list (pv 2)) pa_nil)) rfl)
      (pss_cons (ps_while PassesOwn.never (pt_cmpR op_lt (w_len T.len (pv 3)) (pv 1) (nomark _))
        (pss_one (ps_expr (pe_bm PySem.F.plainAttrs_list PySem.F.slot_list_append PySem.F.type_list_append mt_append (pv 3)
          (pa_cons (pe_bm PySem.F.plainAttrs_list PySem.F.slot_list_pop PySem.F.type_list_pop mt_popAt (pv 4) (pa_cons (pe_cal CA hr1 (pa_cons (pv 0) (pa_cons (w_len T.len (pv 4)) pa_nil))) pa_nil)) pa_nil)))))
      (pss_cons (ps_if (pt_cmpR op_eq (pe_cal CA hr1 (pa_cons (pv 0) (pa_cons pe_int pa_nil))) pe_int (nomark _)) (pss_one (ps_ret (pe_callB cr_sortedS rfl T.sorted PyProof.Rows.boot_sorted (pa_cons (pv 3) pa_nil)))) pss_nil)
      (pss_cons (ps_set (i := 5) scNames.nd rfl (Or.inr rfl) (pe_lc (own := [("_law_at", 7)]) (g := gName 7) rfl scNames.nd (pi_range1 rfl T.range (pa_cons (pe_op op_add pe_int (pe_cal CA hr1 (pa_cons (pv 0) (pa_cons pe_int pa_nil)))) pa_nil))
            (blkOk_by (own := [("_law_at", 7)]) (N := nNames) (sc := defScope sNames) (by decide +kernel)) (fun _ _ _ _ _ => pg_name (i := 7) scNames.nd rfl (Or.inl rfl)) (fun _ _ _ _ _ => pts_nil)
            (fun _ _ _ _ _ => pe_cal CO hr (pa_cons (pv 0) (pa_cons (pv 2) pa_nil)))))
      (pss_cons (ps_set (i := 6) scNames.nd rfl (Or.inr rfl) (pe_cal CA hr1 (pa_cons (pv 0) (pa_cons (pe_op op_add (w_len T.len (pv 5)) pe_int) pa_nil))))
      (pss_one (ps_ret (pe_callB cr_sortedS rfl T.sorted PyProof.Rows.boot_sorted (pa_cons (pe_lc (own := [("_law_one", 8)]) (g := gName 8) rfl scNames.nd (pi_list (pv 3))
            (blkOk_by (own := [("_law_one", 8)]) (N := nNames) (sc := defScope sNames) (by decide +kernel)) (fun _ _ _ _ _ => pg_name (i := 8) scNames.nd rfl (Or.inl rfl)) (fun _ _ _ _ _ => pts_nil)
            (fun _ _ _ _ _ => pe_op op_add_str (pe_op op_add_str (pe_joinK (K := K) rfl pe_str (pe_slice (sl_listK (K := K) rfl) (pv 5) po_none (po_some (pv 6)))) (pv 8)) (pe_joinK (K := K) rfl pe_str (pe_slice (sl_listK (K := K) rfl) (pv 5) (po_some (pv 6)) po_none)))) pa_nil))))))))), ?_⟩
    have na : ∀ {q : Addr}, H q = none → a ≠ q := fun h => by obtain ⟨_, _, dd⟩ := d0; exact ne_of_none dd.at_ h
    have nb : ∀ {q : Addr}, H q = none → b ≠ q := fun h => by obtain ⟨_, _, dd⟩ := d0; exact ne_of_none dd.ds h
    have ns : ∀ {q : Addr}, H q = none → q ∉ [a, b] := fun h m => by
      rcases List.mem_cons.mp m with e | e
      · exact na h e.symm
      · rcases List.mem_cons.mp e with e | e
        · exact nb h e.symm
        · cases e
    obtain ⟨ss, hss, sl, s1⟩ := abc_chars
    refine ⟨Nat.zero_le _, fun r hr0 => ⟨_, rfl, abc, rfl, by rw [abc_len]; decide, fun p hp0 => ?_⟩⟩
    have kr := Kp.new (S := [a, b]) hr0 (o := .lst [])
    have kp := Kp.new (S := [a, b]) hp0 (o := .lst (chars abc))
    have fp : H p = none := (Kp.new (S := []) hr0 (o := .lst [])).free (by simp) hp0
    have rp : r ≠ p := ne_of_none upd_same hp0
    refine ⟨_, _, rfl, fun n σ H1 => ∃ rs ps : List Str, σ = [some (.ref a), some (.int m), some (.str abc), some (.ref r), some (.ref p), none, none, none, none] ∧ Kp [a, b] H H1 ∧ Deal H1 a b ∧ H1 r = some (.lst (rs.map V.str)) ∧ H1 p = some (.lst (ps.map V.str)) ∧ rs.length + ps.length = 26 ∧ (rs.length : Int) ≤ m ∧ (∀ s ∈ rs, One s) ∧ (∀ s ∈ ps, One s) ∧ n = m.toNat - rs.length,
      ⟨_, [], ss, rfl, kr.trans kp, (d0.kp (Kp.new (S := []) hr0) (by simp) (by simp)).kp (Kp.new (S := []) hp0) (by simp) (by simp), by rw [upd_ne rp]; exact upd_same, by rw [← hss]; exact upd_same, by rw [sl]; rfl, by show (0 : Int) ≤ m; omega, by simp, s1, rfl⟩, ?_⟩
    rintro n σ H1 ⟨rs, ps, rfl, k1, d1, hr1', hp1, hlen, hle, ro, po, rfl⟩
    refine ⟨_, rfl, r, rs.map V.str, rfl, .inl (SqL.of hr1'), _, rfl, _, _, rfl, rfl, _, rfl, ?_⟩
    rw [List.length_map]
    by_cases hlt : (rs.length : Int) < m
    · refine iteBT (decide_eq_true hlt) ⟨fun σ' H' => ∃ rs' ps' : List Str, σ' = [some (.ref a), some (.int m), some (.str abc), some (.ref r), some (.ref p), none, none, none, none] ∧ Kp [a, b] H H' ∧ Deal H' a b ∧ H' r = some (.lst (rs'.map V.str)) ∧ H' p = some (.lst (ps'.map V.str)) ∧ rs'.length + ps'.length = 26 ∧ (rs'.length : Int) ≤ m ∧ (∀ s ∈ rs', One s) ∧ (∀ s ∈ ps', One s) ∧ rs'.length = rs.length + 1,
        fun σ' H' ⟨rs', ps', e1, e2, e3, e4, e5, e6, e7, e8, e9, e10⟩ => ⟨m.toNat - rs'.length, by omega, rs', ps', e1, e2, e3, e4, e5, e6, e7, e8, e9, rfl⟩, ?_⟩
      refine ⟨_, rfl, .inl ⟨rfl, _, SqL.of hr1'⟩, _, rfl, .inl ⟨rfl, _, SqL.of hp1⟩, _, rfl, _, rfl, p, ps.map V.str, rfl, .inl (SqL.of hp1), ?_⟩
      rw [List.length_map]
      refine ⟨a, b, (ps.length : Int), rfl, d1, by omega, by omega, fun x H2 x0 x1 k2 d2 => ?_⟩
      have hr2 := k2.st r _ (ns hr0) hr1'
      have hp2 := k2.st p _ (ns fp) hp1
      have hxl : x.toNat < ps.length := by omega
      have hxm : (ps.map V.str)[x.toNat]? = some (.str ps[x.toNat]) := by rw [List.getElem?_map, List.getElem?_eq_getElem hxl]; rfl
      refine ⟨p, ps.map V.str, x, x.toNat, .str ps[x.toNat], rfl, rfl, hp2, by omega, by omega, seqIndex_of x0 (by rw [List.length_map]; exact x1), hxm, ?_⟩
      have hpe : (ps.map V.str).eraseIdx x.toNat = (ps.eraseIdx x.toNat).map V.str := erase_map _ _
      rw [hpe]
      have k3 : Kp [p] H2 (L2.upd H2 p (.lst ((ps.eraseIdx x.toNat).map V.str))) := Kp.lst (by simp) hp2
      have d3 := d2.kp k3 (by simpa using na fp) (by simpa using nb fp)
      have hr3 := k3.st r _ (by simpa using rp) hr2
      have kk3 : Kp [a, b] H _ := (k1.trans k2).own fp hp2 (o := .lst ((ps.eraseIdx x.toNat).map V.str))
      refine ⟨r, rs.map V.str, .str ps[x.toNat], rfl, rfl, hr3, by rw [sizeLine_eq, List.length_map]; omega, ?_⟩
      have hre : rs.map V.str ++ [.str ps[x.toNat]] = (rs ++ [ps[x.toNat]]).map V.str := by simp
      rw [hre]
      have k4 : Kp [r] (L2.upd H2 p (.lst ((ps.eraseIdx x.toNat).map V.str))) (L2.upd (L2.upd H2 p (.lst ((ps.eraseIdx x.toNat).map V.str))) r (.lst ((rs ++ [ps[x.toNat]]).map V.str))) := Kp.lst (by simp) hr3
      refine ⟨rs ++ [ps[x.toNat]], ps.eraseIdx x.toNat, rfl, kk3.own hr0 hr3, d3.kp k4 (by simpa using na hr0) (by simpa using nb hr0), upd_same, k4.st p _ (by simpa using rp.symm) upd_same, ?_, ?_, fun s hs => ?_, fun s hs => po s (List.mem_of_mem_eraseIdx hs), by rw [List.length_append]; rfl⟩
      · rw [List.length_append, List.length_singleton, List.length_eraseIdx_of_lt hxl]
        omega
      · rw [List.length_append, List.length_singleton]
        omega
      · rcases List.mem_append.mp hs with h | h
        · exact ro s h
        · rw [List.mem_singleton.mp h]; exact po _ (List.getElem_mem _)
    · refine iteBF (decide_eq_false hlt) ?_
      have hrm : (rs.length : Int) = m := by omega
      refine ⟨_, rfl, a, b, 2, rfl, d1, by decide, by decide, fun x H2 x0 x1 k2 d2 => ?_⟩
      have hr2 := k2.st r _ (ns hr0) hr1'
      have kk2 := k1.trans k2
      refine ⟨rfl, _, rfl, ite2 (fun _ => ?_) fun _ => ?_⟩
      · refine ⟨_, rfl, r, rs, rfl, SqL.of hr2, by omega, fun ys q pe _ hq => ?_⟩
        refine k q ys _ (kk2.free (fun m => ?_) hq) (kk2.trans (Kp.new hq)) (d2.kp (Kp.new (S := []) hq) (by simp) (by simp)) upd_same (by rw [pe.length_eq]; exact hrm) fun s hs => ?_
        · obtain ⟨_, _, dd⟩ := d2
          rcases List.mem_cons.mp m with e | e
          · rw [e, dd.at_] at hq; cases hq
          · rcases List.mem_cons.mp e with e | e
            · rw [e, dd.ds] at hq; cases hq
            · cases e
        · have o := ro s (pe.mem_iff.mp hs)
          exact ⟨by rw [o.1]; decide, o.2⟩
      · refine ⟨_, rfl, a, b, 7, rfl, d2, by decide, by decide, fun y H3 y0 y1 k3 d3 => ?_⟩
        have hr3 := k3.st r _ (ns hr0) hr2
        have kk3 := kk2.trans k3
        refine ⟨_, _, rfl, rfl, 1 + y, rfl, by omega, by omega, fun D1 hD1 => ?_⟩
        have nD : ∀ {Hx : Hp} {q : Addr}, Deal Hx a b → Hx q = none → q ∉ [a, b] := fun d hq m => by
          obtain ⟨_, _, dd⟩ := d
          rcases List.mem_cons.mp m with e | e
          · rw [e, dd.at_] at hq; cases hq
          · rcases List.mem_cons.mp e with e | e
            · rw [e, dd.ds] at hq; cases hq
            · cases e
        have nD1 := nD d3 hD1
        have nDa : a ∉ [D1] := fun m => nD1 (by rw [List.mem_singleton.mp m]; simp)
        have nDb : b ∉ [D1] := fun m => nD1 (by rw [List.mem_singleton.mp m]; simp)
        refine lc_dataR (K := K) (S := [a, b]) (J := fun H' => Deal H' a b) (Pd := strsP One) (n := (1 + y).toNat) nD1 hD1 (fun H H' kk j => j.kp kk nDa nDb) d3 strsP.zero (by omega) (fun i hi => ?_) fun H4 acc ds k4 d4 h4 nk pd hdl => ?_
        · intro H4 acc ds R N k4 d4 h4 nk pd hdl hR hN
          refine ⟨rfl, tYes_el ⟨_, rfl, _, rfl, a, b, abc, rfl, d4, by rw [abc_len]; decide, by rw [abc_len]; decide, fun c H5 hc k5 d5 => hR _ _ ⟨k5, d5, .text ⟨#[c]⟩, .text _, pd.snoc (One.of hc)⟩⟩⟩
        · obtain ⟨bs, rfl, bl, b1⟩ := pd
          obtain rfl := nkAll_texts nk
          have kD : Kp [a, b] H3 H4 := Kp.drop hD1 k4
          have hr4 := kD.st r _ (ns hr0) hr3
          have kk4 := kk3.trans kD
          have hbl : bs.length ≤ 7 := by omega
          have fD : D1 ∉ [a, b] := nD d3 hD1
          refine ⟨_, rfl, _, rfl, D1, bs.map V.str, rfl, .inl (SqL.of h4), _, _, rfl, rfl, ?_⟩
          rw [List.length_map]
          refine ⟨a, b, (bs.length : Int) + 1, rfl, d4, by omega, by omega, fun z H5 z0 z1 k5 d5 => ?_⟩
          have hr5 := k5.st r _ (ns hr0) hr4
          have hb5 := k5.st D1 _ fD h4
          have kk5 := kk4.trans k5
          refine ⟨_, rfl, r, rfl, ⟨_, SqL.of hr5⟩, fun D2 hD2 => ?_⟩
          refine lc_dataL (K := K) (S := []) (J := J0) (Pd := strsP NmOk) (xs := rs.map V.str) (SqL.of hr5) (by simp) (by simp) hD2 hJ0 trivial strsP.zero (by rw [List.length_map]; omega) (fun i x hx => ?_) fun H6 acc ds k6 _ h6 nk6 pd hdl => ?_
          · obtain ⟨s, hs, rfl⟩ := strs_at hx
            obtain ⟨s1, s2⟩ := ro s (List.mem_of_getElem? hs)
            intro H6 acc ds R N k6 _ h6 nk6 pd hdl hR hN
            have hb6 : H6 D1 = some (.lst (bs.map V.str)) := (Kp.drop hD2 k6).st D1 _ (by simp) hb5
            obtain ⟨ys1, e1, m1, l1⟩ := cut_strs bs none (some z)
            obtain ⟨ys2, e2, m2, l2⟩ := cut_strs bs (some z) none
            have o1 : ∀ s ∈ ys1, s.length = 1 := fun s hs => (b1 s (m1 s hs)).1
            have o2 : ∀ s ∈ ys2, s.length = 1 := fun s hs => (b1 s (m2 s hs)).1
            have n1 : Sm (Txt.join ("" : Str) ys1) := Sm.join fun s hs => (b1 s (m1 s hs)).2
            have n2 : Sm (Txt.join ("" : Str) ys2) := Sm.join fun s hs => (b1 s (m2 s hs)).2
            have j1 := join_ones o1
            have j2 := join_ones o2
            refine ⟨rfl, tYes_el ⟨⟨_, rfl⟩, _, rfl, _, rfl, z, rfl, D1, bs.map V.str, rfl, SqL.of hb6, fun q1 hq1 => ?_⟩⟩
            rw [e1]
            have hb7 := (Kp.new (S := []) hq1 (o := .lst (ys1.map V.str))).st D1 _ (by simp) hb6
            refine ⟨_, q1, ys1, rfl, rfl, .inl (SqL.of upd_same), by rw [ones_sum o1, nil_len]; omega, _, rfl, _, _, rfl, rfl, by rw [sizeLine_eq]; omega, ⟨_, rfl⟩, _, rfl, _, rfl, z, rfl, D1, bs.map V.str, rfl, SqL.of hb7, fun q2 hq2 => ?_⟩
            rw [e2]
            refine ⟨_, q2, ys2, rfl, rfl, .inl (SqL.of upd_same), by rw [ones_sum o2, nil_len]; omega, _, _, rfl, rfl, by rw [Str.length_append, sizeLine_eq]; omega, hR _ _ ⟨(Kp.new hq1).trans (Kp.new hq2), trivial, .text _, .text _, pd.snoc ⟨?_, (n1.app s2).app n2⟩⟩⟩
            rw [Str.length_append, Str.length_append]
            omega
          · obtain ⟨zs, rfl, zl, z1⟩ := pd
            obtain rfl := nkAll_texts nk6
            have kD2 : Kp [] H5 H6 := Kp.drop hD2 k6
            have d6 := d5.same kD2
            have kk6 := kk5.trans kD2.nil
            rw [List.length_map] at zl
            refine ⟨D2, zs, rfl, SqL.of h6, by omega, fun ys q pe _ hq => ?_⟩
            exact k q ys _ (kk6.free (nD d6 hq) hq) (kk6.trans (Kp.new hq)) (d6.kp (Kp.new (S := []) hq) (by simp) (by simp)) upd_same (by rw [pe.length_eq, zl]; exact hrm) fun s hs => z1 s (pe.mem_iff.mp hs)
end
end Wb

namespace Wb
open PySem L2
open PyProof.Rows (envOfC)

theorem Deal.free {H : Hp} {a b q : Addr} (d : Deal H a b) (hq : H q = none) : q ∉ [a, b] := fun m => by
  obtain ⟨_, _, dd⟩ := d
  rcases List.mem_cons.mp m with e | e
  · rw [e, dd.at_] at hq; cases hq
  · rcases List.mem_cons.mp e with e | e
    · rw [e, dd.ds] at hq; cases hq
    · cases e
theorem Deal.kpD {H H' : Hp} {a b D : Addr} (hD : D ∉ [a, b]) (d : Deal H a b) (k : Kp [D] H H') : Deal H' a b :=
  d.kp k (fun m => hD (by rw [List.mem_singleton.mp m]; simp)) (fun m => hD (by rw [List.mem_singleton.mp m]; simp))
theorem Deal.newD {H : Hp} {a b q : Addr} {o : HO} (d : Deal H a b) (hq : H q = none) : Deal (L2.upd H q o) a b := d.kp (Kp.new (S := []) hq) (by simp) (by simp)
theorem ix_listK {X : Cx} {K : PySem.W.Frag} (hK : X.K = K) : IxR X (rIxL K) := by
  subst hK
  exact ix_list
section
variable {X : Cx} {p pos apos : Pos} {e o : Expr} {te to : TE}
theorem w_sum (hc : X.calm = true) (m : X.mg "sum" = none) (h : PE X e te) (hg : Gl X "sum" := by rfl) (he : starEach [e] X.env = (false, eval e X.env) :: starEach [] X.env := by rfl) : PE X (.Call (.Name "sum" p) [e] [] pos) (tCB (rSum X.K) (tCons te tNil)) :=
  pe_callB (cr_sum hc) hg m PyProof.Rows.boot_sum (pa_cons h pa_nil he) (by decide) (by decide) he rfl
theorem w_sumK {K : PySem.W.Frag} (hK : X.K = K) (hc : X.calm = true) (m : X.mg "sum" = none) (h : PE X e te) (hg : Gl X "sum" := by rfl) (he : starEach [e] X.env = (false, eval e X.env) :: starEach [] X.env := by rfl) : PE X (.Call (.Name "sum" p) [e] [] pos) (tCB (rSum K) (tCons te tNil)) := by
  subst hK
  exact w_sum hc m h hg he
end
def qsP (i : Nat) (ds : List NestedKey) : Prop := ∃ qs : Qs, ds = qs.map qD ∧ qs.length = i ∧ ∀ q ∈ qs, (1 ≤ q.2 ∧ q.2 ≤ 3) ∧ NmOk q.1
theorem qsP.snoc {i : Nat} {ds : List NestedKey} {q : Str × Nat} (h : qsP i ds) (h1 : 1 ≤ q.2) (h3 : q.2 ≤ 3) (hn : NmOk q.1) : qsP (i + 1) (ds ++ [qD q]) := by
  obtain ⟨ss, rfl, hl, hp⟩ := h
  refine ⟨ss ++ [q], by simp, by simp [hl], fun x hx => ?_⟩
  rcases List.mem_append.mp hx with h | h
  · exact hp x h
  · rw [List.mem_singleton.mp h]; exact ⟨⟨h1, h3⟩, hn⟩
theorem sum_le4 : ∀ {ps : List Nat}, (∀ p ∈ ps, p ≤ 4) → ps.sum ≤ 4 * ps.length
  | [], _ => Nat.zero_le _
  | p :: ps, h => by
    have := sum_le4 (ps := ps) fun q hq => h q (List.mem_cons_of_mem _ hq)
    have := h p (by simp)
    rw [List.sum_cons, List.length_cons]
    omega
theorem le_sum : ∀ {ps : List Nat} {p : Nat}, p ∈ ps → p ≤ ps.sum
  | [], _, h => by cases h
  | q :: ps, p, h => by
    rw [List.sum_cons]
    rcases List.mem_cons.mp h with e | e
    · omega
    · have := le_sum e; omega
theorem cast_sum : ∀ ps : List Nat, (ps.map fun (n : Nat) => (n : Int)).sum = ((ps.sum : Nat) : Int)
  | [] => rfl
  | p :: ps => by
    rw [List.map_cons, List.sum_cons, cast_sum ps, List.sum_cons]
    omega
def natsV (ps : List Nat) : List V := (ps.map fun (n : Nat) => (n : Int)).map V.int
theorem ixN_at {n : Nat} {x : Int} (h0 : 0 ≤ x) (h1 : x < n) : ixN n x = some x.toNat := by
  unfold ixN
  rw [if_pos h0, if_pos h1]
theorem nats_len (ps : List Nat) : (natsV ps).length = ps.length := by unfold natsV; rw [List.length_map, List.length_map]
def natsP (i : Nat) (ds : List NestedKey) : Prop := ∃ ps : List Nat, ds = ps.map (fun (n : Nat) => NestedKey.num (n : Int)) ∧ ps.length = i ∧ ∀ p ∈ ps, p ≤ 4
theorem natsP.snoc {i : Nat} {ds : List NestedKey} {x : Int} (h : natsP i ds) (h0 : 0 ≤ x) (h4 : x ≤ 4) : natsP (i + 1) (ds ++ [.num x]) := by
  obtain ⟨ss, rfl, hl, hp⟩ := h
  refine ⟨ss ++ [x.toNat], ?_, by simp [hl], fun y hy => ?_⟩
  · rw [List.map_append]
    simp only [List.map_cons, List.map_nil]
    rw [Int.toNat_of_nonneg h0]
  · rcases List.mem_append.mp hy with h | h
    · exact hp y h
    · rw [List.mem_singleton.mp h]; omega
theorem nats_of {K : PySem.W.Frag} {H : Hp} {acc : List V} {ps : List Nat} (h : NkAll K H acc (ps.map fun (n : Nat) => NestedKey.num (n : Int))) : acc = natsV ps := by
  have e : ps.map (fun (n : Nat) => NestedKey.num (n : Int)) = (ps.map fun (n : Nat) => (n : Int)).map .num := by rw [List.map_map]; rfl
  rw [e] at h
  exact nkAll_ints h
theorem natsV_set (ps : List Nat) (i : Nat) : (natsV ps).set i (.int 1) = natsV (ps.set i 1) := by
  unfold natsV
  rw [List.map_set, List.map_set]
  rfl
section
variable {P : Program} {w : World} {K : PySem.W.Frag} {mg : Str → Option Value} {base : Heap}
/-! ### _law_questions -/
def spQuestions (K : PySem.W.Frag) : Sp := fun vs H Q _ => ∃ (a b : Addr), vs = [.ref a, .int 3] ∧ Deal H a b ∧
  ∀ (v : V) (qs : Qs) (H' : Hp), Kp [a, b] H H' → Deal H' a b → Nk K H' v (qsD qs) → QsOk qs → Q v H'
abbrev pQuestions : List Str := ["_law_deal_here", "_law_most"]
abbrev nQuestions : List Str := ["_law_deal_here", "_law_most", "_law_names_here", "_law_name"]
theorem scQuestions : FnScope nQuestions pQuestions (defScope sQuestions) := ⟨rfl, rfl, rfl, by decide +kernel, rfl, by decide +kernel, by decide +kernel⟩
theorem ok_questions (D : Df K mg "_law_questions" sQuestions pQuestions) (T : Txt mg) (CA : Cal P w K mg base 1 "_law_any" pAny spAny) (CN : Cal P w K mg base 3 "_law_names" pNames spNames) : Cal P w K mg base 4 "_law_questions" pQuestions (spQuestions K) := by
  refine cal_mk D scQuestions (fun vs H Q E h => ?_) (fun f cdv A outer sh0 H vs Q E hr h => ?_)
  · obtain ⟨a, b, rfl, _⟩ := h
    rfl
  · obtain ⟨a, b, rfl, d0, k⟩ := h
    have hr1 : Room 1 (A.deeper (envOfC "_law_questions" (defScope sQuestions) sh0.heap.objs.size f cdv)) := hr.mono (by decide)
    refine ⟨_, pss_cons (ps_set (i := 2) scQuestions.nd rfl (Or.inr rfl) (pe_cal CN hr (pa_cons (pv 0) (pa_cons (pe_op op_add pe_int (pe_cal CA hr1 (pa_cons (pv 0) (pa_cons (pv 1) pa_nil)))) pa_nil))))
      (pss_one (ps_ret (w_tuple T.tuple (pe_lc (own := [("_law_name", 3)]) (g := gName 3) rfl scQuestions.nd (pi_list (pv 2)) (blkOk_by (own := [("_law_name", 3)]) (N := nQuestions) (sc := defScope sQuestions) (by decide +kernel))
        (fun _ _ _ _ _ => pg_name (i := 3) scQuestions.nd rfl (Or.inl rfl)) (fun _ _ _ _ _ => pts_nil)
        (fun _ _ _ _ _ => pe_tup (pa_cons (pv 3) (pa_cons (pe_ifExp (pt_cmpR op_lt (w_lenK (K := K) rfl T.len (pv 2)) pe_int (nomark _)) (pe_op op_add pe_int (pe_cal CA hr1 (pa_cons (pv 0) (pa_cons pe_int pa_nil)))) pe_int) pa_nil))))))), ?_⟩
    refine ⟨_, rfl, _, rfl, _, rfl, a, b, 3, rfl, d0, by decide, by decide, fun x H1 x0 x1 k1 d1 => ?_⟩
    refine ⟨_, _, rfl, rfl, a, b, 1 + x, rfl, d1, by omega, by omega, fun f0 ns H2 hf0 k2 d2 hf2 nl nm => ?_⟩
    have hl3 : ns.length ≤ 3 := by omega
    have hl1 : 1 ≤ ns.length := by omega
    refine ⟨_, rfl, f0, rfl, ⟨_, SqL.of hf2⟩, fun D1 hD1 => ?_⟩
    have nD1 := d2.free hD1
    have nf : f0 ∉ [a, b] := d1.free hf0
    refine lc_dataL (K := K) (S := [a, b]) (J := fun H' => Deal H' a b) (Pd := qsP) (xs := ns.map V.str) (SqL.of hf2) nf nD1 hD1 (fun H H' kk j => j.kpD nD1 kk) d2 ⟨[], rfl, rfl, by simp⟩ (by rw [List.length_map]; omega) (fun i x hx => ?_) fun H4 acc ds k4 d4 h4 nk pd hdl => ?_
    · obtain ⟨s, hs, rfl⟩ := strs_at hx
      have sl := nm s (List.mem_of_getElem? hs)
      intro H4 acc ds R N k4 d4 h4 nk pd hdl hR hN
      have hf4 : H4 f0 = some (.lst (ns.map V.str)) := (Kp.drop hD1 k4).st f0 _ nf hf2
      refine ⟨rfl, tYes_el ⟨_, rfl, _, rfl, f0, _, rfl, .inl (SqL.of hf4), _, _, rfl, rfl, _, rfl, ite2 (fun _ => ?_) fun _ => ?_⟩⟩
      · refine ⟨_, rfl, a, b, 2, rfl, d4, by decide, by decide, fun y H5 y0 y1 k5 d5 => ⟨_, _, rfl, rfl, (by show 2 ≤ sizeLine; decide), fun z hz => hR _ _ ⟨k5.trans (Kp.new hz), d5.newD hz, qD (s, (2 + y).toNat), ?_, pd.snoc (by show 1 ≤ (2 + y).toNat; omega) (by show (2 + y).toNat ≤ 3; omega) sl⟩⟩⟩
        have e : (((2 + y).toNat : Nat) : Int) = 2 + y := by omega
        unfold qD
        rw [e]
        exact Nk.made (.cons (.text _) (.cons (.num _) .nil)) hz
      · exact ⟨(by show 2 ≤ sizeLine; decide), fun z hz => hR _ _ ⟨Kp.new hz, d4.newD hz, qD (s, 2), Nk.made (.cons (.text _) (.cons (.num _) .nil)) hz, pd.snoc (by show 1 ≤ 2; decide) (by show 2 ≤ 3; decide) sl⟩⟩
    · obtain ⟨qs, rfl, ql, qp⟩ := pd
      rw [List.length_map] at ql
      have kD : Kp [a, b] H2 H4 := Kp.drop hD1 k4
      exact ⟨D1, acc, rfl, .inl ⟨SqL.of h4, fun p hp => k _ qs _ (((k1.trans k2).trans kD).trans (Kp.new hp)) (d4.newD hp) (Nk.made nk hp) ⟨by omega, by omega, fun q hq => (qp q hq).1, fun q hq => (qp q hq).2⟩⟩⟩
/-! ### _law_shares -/
def spShares (K : PySem.W.Frag) : Sp := fun vs H Q _ => ∃ (a b : Addr) (m : Nat) (l : Int), vs = [.ref a, .int (m : Int), .int l] ∧ Deal H a b ∧ 1 ≤ m ∧ m ≤ 1000 ∧ 0 ≤ l ∧ l ≤ 1 ∧
  ∀ (v : V) (ps : List Nat) (H' : Hp), Kp [a, b] H H' → Deal H' a b → Nk K H' v (.tup (ps.map fun p => frD p ps.sum)) → ps.length = m → 0 < ps.sum → ps.sum ≤ 4000 → Q v H'
abbrev pShares : List Str := ["_law_deal_here", "_law_many", "_law_least"]
abbrev nShares : List Str := ["_law_deal_here", "_law_many", "_law_least", "_law_parts", "_law_turn", "_law_one"]
theorem scShares : FnScope nShares pShares (defScope sShares) := ⟨rfl, rfl, rfl, by decide +kernel, rfl, by decide +kernel, by decide +kernel⟩
theorem ok_shares (D : Df K mg "_law_shares" sShares pShares) (T : Txt mg) (CA : Cal P w K mg base 1 "_law_any" pAny spAny) (CL : Cal P w K mg base 2 "_law_low" pLow (spLow K)) : Cal P w K mg base 3 "_law_shares" pShares (spShares K) := by
  refine cal_mk D scShares (fun vs H Q E h => ?_) (fun f cdv A outer sh0 H vs Q E hr h => ?_)
  · obtain ⟨a, b, m, l, rfl, _⟩ := h
    rfl
  · obtain ⟨a, b, m, l, rfl, d0, m1, m2, l0, l1, k⟩ := h
    have hr1 : Room 1 (A.deeper (envOfC "_law_shares" (defScope sShares) sh0.heap.objs.size f cdv)) := hr.mono (by decide)
    refine ⟨_, pss_cons (ps_set (i := 3) scShares.nd rfl (Or.inr rfl) (pe_lc (own := [("_law_turn", 4)]) (g := gName 4) rfl scShares.nd (pi_range1 rfl T.range (pa_cons (pv 1) pa_nil))
            (blkOk_by (own := [("_law_turn", 4)]) (N := nShares) (sc := defScope sShares) (by decide +kernel)) (fun _ _ _ _ _ => pg_name (i := 4) scShares.nd rfl (Or.inl rfl)) (fun _ _ _ _ _ => pts_nil)
            (fun _ _ _ _ _ => pe_op op_add (pv 2) (pe_cal CA hr1 (pa_cons (pv 0) (pa_cons pe_int pa_nil))))))
      (pss_cons (ps_if (pt_cmpR op_eq (w_sum rfl T.sum (pv 3)) pe_int (nomark _)) (pss_one (ps_asg pe_int (pg_sub (pv 3) (pe_cal CA hr1 (pa_cons (pv 0) (pa_cons (pv 1) pa_nil))) set_list))) pss_nil)
      (pss_one (ps_ret (w_tuple T.tuple (pe_lc (own := [("_law_one", 5)]) (g := gName 5) rfl scShares.nd (pi_list (pv 3))
            (blkOk_by (own := [("_law_one", 5)]) (N := nShares) (sc := defScope sShares) (by decide +kernel)) (fun _ _ _ _ _ => pg_name (i := 5) scShares.nd rfl (Or.inl rfl)) (fun _ _ _ _ _ => pts_nil)
            (fun _ _ _ _ _ => pe_cal CL hr (pa_cons (pv 5) (pa_cons (w_sumK (K := K) rfl rfl T.sum (pv 3)) pa_nil)))))))), ?_⟩
    refine ⟨_, rfl, (m : Int), rfl, by omega, by omega, fun D1 hD1 => ?_⟩
    have nD1 := d0.free hD1
    have last : ∀ (ps : List Nat) (H4 : Hp), Kp [a, b] H H4 → Deal H4 a b → H4 D1 = some (.lst (natsV ps)) → ps.length = m → 0 < ps.sum → ps.sum ≤ 4000 →
        ∀ (D2 : Addr), H4 D2 = none → ∀ (H5 : Hp) (acc : List V), Kp [D2] H4 H5 → H5 D2 = some (.lst acc) → NkAll K H5 acc (ps.map fun p => frD p ps.sum) → ∀ p, H5 p = none → Q (.ref p) (L2.upd H5 p (.tup acc)) := fun ps H4 kk dd hh pl p0 p1 D2 hD2 H5 acc k5 h5 nk5 p hp => by
      have kD2 : Kp [] H4 H5 := Kp.drop hD2 k5
      exact k _ ps _ ((kk.trans kD2.nil).trans (Kp.new hp)) ((dd.same kD2).newD hp) (Nk.made nk5 hp) pl p0 p1
    have turn : ∀ (ps : List Nat) (H4 : Hp), Kp [a, b] H H4 → Deal H4 a b → H4 D1 = some (.lst (natsV ps)) → ps.length = m → 0 < ps.sum → ps.sum ≤ 4000 →
        ∀ (i : Nat) (x : V), (natsV ps)[i]? = some x → ∃ n : Nat, ps[i]? = some n ∧ x = .int (n : Int) := fun ps H4 _ _ _ _ _ _ i x hx => by
      unfold natsV at hx
      rw [List.getElem?_map, List.getElem?_map] at hx
      obtain ⟨y, hy, rfl⟩ := Option.map_eq_some_iff.mp hx
      obtain ⟨n, hn, rfl⟩ := Option.map_eq_some_iff.mp hy
      exact ⟨n, hn, rfl⟩
    refine lc_dataR (K := K) (S := [a, b]) (J := fun H' => Deal H' a b) (Pd := natsP) (n := m) nD1 hD1 (fun H H' kk j => j.kpD nD1 kk) d0 ⟨[], rfl, rfl, by simp⟩ (by omega) (fun i hi => ?_) fun H4 acc ds k4 d4 h4 nk pd hdl => ?_
    · intro H4 acc ds R N k4 d4 h4 nk pd hdl hR hN
      refine ⟨rfl, tYes_el ⟨_, rfl, _, rfl, a, b, 4, rfl, d4, by decide, by decide, fun y H5 y0 y1 k5 d5 => ⟨_, _, rfl, rfl, hR _ _ ⟨k5, d5, .num (l + y), .num _, pd.snoc (by omega) (by omega)⟩⟩⟩⟩
    · obtain ⟨ps, rfl, pl, p4⟩ := pd
      obtain rfl := nats_of nk
      have kD : Kp [a, b] H H4 := Kp.drop hD1 k4
      have s4 := sum_le4 p4
      refine ⟨_, rfl, D1, _, rfl, SqL.of h4, ?_⟩
      rw [cast_sum]
      refine ⟨rfl, _, rfl, ?_⟩
      by_cases hs : ps.sum = 0
      · refine iteBT (decide_eq_true (by rw [hs]; rfl)) ?_
        refine ⟨_, rfl, _, rfl, _, rfl, a, b, (m : Int), rfl, d4, by omega, by omega, fun x H5 x0 x1 k5 d5 => ?_⟩
        have h5 := k5.st D1 _ nD1 h4
        have hxl : x.toNat < ps.length := by omega
        refine ⟨D1, natsV ps, x, x.toNat, rfl, rfl, h5, ?_, ?_⟩
        · exact ixN_at x0 (by rw [nats_len]; omega)
        rw [natsV_set]
        have k6 : Kp [a, b] H (L2.upd H5 D1 (.lst (natsV (ps.set x.toNat 1)))) := (kD.trans k5).own hD1 h5
        have d6 : Deal (L2.upd H5 D1 (.lst (natsV (ps.set x.toNat 1)))) a b := d5.kpD nD1 (Kp.lst (by simp) h5)
        have pl6 : (ps.set x.toNat 1).length = m := by rw [List.length_set]; exact pl
        have m6 : 1 ∈ ps.set x.toNat 1 := by rw [List.mem_iff_getElem?]; exact ⟨x.toNat, by rw [List.getElem?_set_self hxl]⟩
        have p6 := le_sum m6
        have s6 : (ps.set x.toNat 1).sum ≤ 4 * (ps.set x.toNat 1).length := sum_le4 fun p hp => by
          rcases List.mem_or_eq_of_mem_set hp with h | h
          · exact p4 p h
          · omega
        refine ⟨_, rfl, D1, rfl, ⟨_, SqL.of upd_same⟩, fun D2 hD2 => ?_⟩
        refine lc_dataL (K := K) (S := []) (J := J0) (Pd := mapP (ps.set x.toNat 1) fun p => frD p (ps.set x.toNat 1).sum) (xs := natsV (ps.set x.toNat 1)) (SqL.of upd_same) (by simp) (by simp) hD2 hJ0 trivial mapP.zero (by rw [nats_len]; omega) (fun i x2 hx => ?_) fun H7 acc ds k7 _ h7 nk7 pd hdl => ?_
        · obtain ⟨n, hn, rfl⟩ := turn _ _ k6 d6 upd_same pl6 (by omega) (by omega) i x2 hx
          intro H7 acc ds R N k7 _ h7 nk7 pd hdl hR hN
          have h8 : H7 D1 = _ := (Kp.drop hD2 k7).st D1 _ (by simp) upd_same
          refine ⟨rfl, tYes_el ⟨_, rfl, _, rfl, D1, _, rfl, SqL.of h8, ?_⟩⟩
          rw [cast_sum]
          exact ⟨n, (ps.set x.toNat 1).sum, rfl, by omega, by omega, fun v H8 k8 nk8 => hR _ _ ⟨k8, trivial, _, nk8, pd.step hn⟩⟩
        · obtain rfl := pd.done (by rw [nats_len]; omega)
          exact ⟨D2, acc, rfl, .inl ⟨SqL.of h7, fun p hp => last _ _ k6 d6 upd_same pl6 (by omega) (by omega) D2 hD2 H7 acc k7 h7 nk7 p hp⟩⟩
      · refine iteBF (decide_eq_false fun e => hs (by have := V.int.inj e; omega)) ?_
        refine ⟨_, rfl, D1, rfl, ⟨_, SqL.of h4⟩, fun D2 hD2 => ?_⟩
        refine lc_dataL (K := K) (S := []) (J := J0) (Pd := mapP ps fun p => frD p ps.sum) (xs := natsV ps) (SqL.of h4) (by simp) (by simp) hD2 hJ0 trivial mapP.zero (by rw [nats_len]; omega) (fun i x2 hx => ?_) fun H7 acc ds k7 _ h7 nk7 pd hdl => ?_
        · obtain ⟨n, hn, rfl⟩ := turn _ _ kD d4 h4 pl (by omega) (by omega) i x2 hx
          intro H7 acc ds R N k7 _ h7 nk7 pd hdl hR hN
          have h8 : H7 D1 = _ := (Kp.drop hD2 k7).st D1 _ (by simp) h4
          refine ⟨rfl, tYes_el ⟨_, rfl, _, rfl, D1, _, rfl, SqL.of h8, ?_⟩⟩
          rw [cast_sum]
          exact ⟨n, ps.sum, rfl, by omega, by omega, fun v H8 k8 nk8 => hR _ _ ⟨k8, trivial, _, nk8, pd.step hn⟩⟩
        · obtain rfl := pd.done (by rw [nats_len]; omega)
          exact ⟨D2, acc, rfl, .inl ⟨SqL.of h7, fun p hp => last _ _ kD d4 h4 pl (by omega) (by omega) D2 hD2 H7 acc k7 h7 nk7 p hp⟩⟩
end
end Wb

namespace Wb
open PySem L2
open PyProof.Rows (envOfC)

/-- what is known of the shares of a book -/
structure BookOk (qs : Qs) (trs : List Tri) (t : Nat) : Prop where
  due : DueOk qs trs t
  lot : ∀ x ∈ trs, LotOk (qs.map (·.1)) x.1.1
  rw' : ∀ x ∈ trs, RowOk qs.length x.1.2
theorem BookOk.fit {qs : Qs} {ks trs : List Tri} {t : Nat} (hk : ∀ y ∈ ks, LotOk (qs.map (·.1)) y.1.1 ∧ RowOk qs.length y.1.2) (f : Fit ks trs) (hs : (ks.map (·.2)).sum = t) (t0 : 0 < t) (t1 : t ≤ big) (hl : ks.length ≤ 1000) (hq : qs.length ≤ 1000) : BookOk qs trs t where
  due := ⟨t0, t1, by rw [f.sum, hs], f.pos, fun x hx => by
    obtain ⟨y, hy, e⟩ := f.key x hx
    rw [← e]
    exact (hk y hy).2.1, Nat.le_trans f.len hl, hq⟩
  lot := fun x hx => by
    obtain ⟨y, hy, e⟩ := f.key x hx
    rw [← e]
    exact (hk y hy).1
  rw' := fun x hx => by
    obtain ⟨y, hy, e⟩ := f.key x hx
    rw [← e]
    exact (hk y hy).2
theorem key_made {K : PySem.W.Frag} {H : Hp} {z : Addr} {u v : V} {l : List Str} {r : List Int} (h1 : Nk K H u (lotD l)) (h2 : Nk K H v (rowD r)) (hz : H z = none) : Nk K (L2.upd H z (.tup [u, v])) (.ref z) (keyD (l, r)) := Nk.made (.cons h1 (.cons h2 .nil)) hz
section
variable {P : Program} {w : World} {K : PySem.W.Frag} {mg : Str → Option Value} {base : Heap}
/-! ### _law_drawn -/
def spDrawn (K : PySem.W.Frag) : Sp := fun vs H Q _ => ∃ (a b : Addr) (q : V) (qs : Qs) (l : Int), vs = [.ref a, q, .int l] ∧ Deal H a b ∧ Nk K H q (qsD qs) ∧ QsOk qs ∧ 0 ≤ l ∧ l ≤ 1 ∧
  ∀ (v : V) (trs : List Tri) (t : Nat) (H' : Hp), Kp [a, b] H H' → Deal H' a b → Nk K H' v (.tup (trs.map (triD t))) → BookOk qs trs t → Q v H'
abbrev pDrawn : List Str := ["_law_deal_here", "_law_questions_here", "_law_least"]
abbrev nDrawn : List Str := ["_law_deal_here", "_law_questions_here", "_law_least", "_law_keys", "_law_lot", "_law_shares_here", "_law_truth", "_law_at"]
theorem scDrawn : FnScope nDrawn pDrawn (defScope sDrawn) := ⟨rfl, rfl, rfl, by decide +kernel, rfl, by decide +kernel, by decide +kernel⟩
theorem ok_drawn (D : Df K mg "_law_drawn" sDrawn pDrawn) (T : Txt mg) (CLo : Cal P w K mg base 2 "_law_lots" pQ (spLots K)) (CTr : Cal P w K mg base 2 "_law_truths" pQ (spTruths K)) (CS : Cal P w K mg base 3 "_law_shares" pShares (spShares K)) (C3 : Cal P w K mg base 5 "_law_triples" pTriples (spTriples K)) : Cal P w K mg base 6 "_law_drawn" pDrawn (spDrawn K) := by
  refine cal_mk D scDrawn (fun vs H Q E h => ?_) (fun f cdv A outer sh0 H vs Q E hr h => ?_)
  · obtain ⟨a, b, q, qs, l, rfl, _⟩ := h
    rfl
  · obtain ⟨a, b, q, qs, l, rfl, d0, hq, ok, l0, l1, k⟩ := h
    have hr2 : Room 2 (A.deeper (envOfC "_law_drawn" (defScope sDrawn) sh0.heap.objs.size f cdv)) := hr.mono (by decide)
    have hr3 : Room 3 (A.deeper (envOfC "_law_drawn" (defScope sDrawn) sh0.heap.objs.size f cdv)) := hr.mono (by decide)
    refine ⟨_, pss_cons (ps_set (i := 3) scDrawn.nd rfl (Or.inr rfl) (pe_lst pa_nil))
      (pss_cons (ps_for PassesOwn.never rfl (pi_list (pe_cal CLo hr2 (pa_cons (pv 1) pa_nil))) (pg_name (i := 4) scDrawn.nd rfl (Or.inr rfl))
        (pss_one (ps_set (i := 3) scDrawn.nd rfl (Or.inr rfl) (pe_op op_cat (pv 3) (pe_lc (own := [("_law_truth", 6)]) (g := gName 6) rfl scDrawn.nd (pi_list (pe_cal CTr hr2 (pa_cons (pv 1) pa_nil)))
            (blkOk_by (own := [("_law_truth", 6)]) (N := nDrawn) (sc := defScope sDrawn) (by decide +kernel)) (fun _ _ _ _ _ => pg_name (i := 6) scDrawn.nd rfl (Or.inl rfl)) (fun _ _ _ _ _ => pts_nil)
            (fun _ _ _ _ _ => pe_tup (pa_cons (pv 4) (pa_cons (pv 6) pa_nil))))))))
      (pss_cons (ps_set (i := 5) scDrawn.nd rfl (Or.inr rfl) (pe_cal CS hr3 (pa_cons (pv 0) (pa_cons (w_len T.len (pv 3)) (pa_cons (pv 2) pa_nil)))))
      (pss_one (ps_ret (pe_cal C3 hr (pa_cons (pe_lc (own := [("_law_at", 7)]) (g := gName 7) rfl scDrawn.nd (pi_range1 rfl T.range (pa_cons (w_len T.len (pv 3)) pa_nil))
            (blkOk_by (own := [("_law_at", 7)]) (N := nDrawn) (sc := defScope sDrawn) (by decide +kernel)) (fun _ _ _ _ _ => pg_name (i := 7) scDrawn.nd rfl (Or.inl rfl)) (fun _ _ _ _ _ => pts_nil)
            (fun _ _ _ _ _ => pe_tup (pa_cons (pe_ix (ix_listK (K := K) rfl) (pv 3) (pv 7) (fun _ _ => rfl)) (pa_cons (pe_ix (ix_tupK (K := K) rfl) (pv 5) (pv 7) (fun _ _ => rfl)) pa_nil)))) pa_nil)))))), ?_⟩
    refine ⟨Nat.zero_le _, fun k0 hk0 => ?_⟩
    have kp0 := Kp.new (S := []) hk0 (o := .lst [])
    refine ⟨_, rfl, q, qs, rfl, hq.tk kp0.tk, ok, fun f0 ys ls H1 hf0 k1 hf1 nkl lo l1' l8 => ?_⟩
    have l3 := ok.l3
    have ysl : ys.length = ls.length := by rw [nkl.length, List.length_map]
    refine ⟨f0, rfl, ⟨_, SqL.of hf1⟩, for_list (K := K) (a := f0) (xs := ys) (fun i σ H' => ∃ (g : Addr) (zs : List V) (ks : List (List Str × List Int)) (u4 : Option V), σ = [some (.ref a), some q, some (.int l), some (.ref g), u4, none, none, none] ∧ H g = none ∧ Kp [] H H' ∧ Kp [] H1 H' ∧ H' g = some (.lst zs) ∧ NkAll K H' zs (ks.map keyD) ∧ (∀ x ∈ ks, LotOk (qs.map (·.1)) x.1 ∧ RowOk qs.length x.2) ∧ i ≤ ks.length ∧ ks.length ≤ i * 27)
      ⟨k0, [], [], none, rfl, hk0, kp0.trans k1, Kp.refl _, k1.st k0 _ (by simp) upd_same, .nil, by simp, Nat.le_refl _, Nat.le_refl _⟩ (fun i σ H' _ ⟨_, _, _, _, _, _, _, kp2, _⟩ => SqL.kp (SqL.of hf1) kp2 (by simp)) ?_ ?_⟩
    · rintro i x σ H' hx ⟨g, zs, ks, u4, rfl, fg, kp, kp1, hg, nkz, ko, ki, ki2⟩
      obtain ⟨lt, hlt, hnx⟩ := nkAll_map lotD nkl hx
      have hlm := lo lt (List.mem_of_getElem? hlt)
      have il : i < ys.length := (List.getElem?_eq_some_iff.mp hx).1
      refine ⟨_, rfl, _, rfl, q, qs, rfl, hq.tk kp.tk, ok, fun f1 ts rs H2 hf1' k2 hf2 nkt rok r1 r27 => ?_⟩
      have tsl : ts.length = rs.length := by rw [nkt.length, List.length_map]
      have nx2 : Nk K H2 x (lotD lt) := (hnx.tk kp1.tk).tk k2.tk
      refine ⟨f1, rfl, ⟨_, SqL.of hf2⟩, fun D1 hD1 => ?_⟩
      refine lc_dataL (K := K) (S := []) (J := J0) (Pd := mapP (rs.map fun r => (lt, r)) keyD) (xs := ts) (SqL.of hf2) (by simp) (by simp) hD1 hJ0 trivial mapP.zero (by omega) (fun m y hy => ?_) fun H3 acc es k3 _ h3 nk3 pd hdl => ?_
      · intro H3 acc es R N k3 _ h3 nk3 pd hdl hR hN
        obtain ⟨r, hr', hny⟩ := nkAll_map rowD nkt hy
        refine ⟨rfl, tYes_el ⟨_, rfl, _, rfl, (by show 2 ≤ sizeLine; decide), fun z hz => hR _ _ ⟨Kp.new hz, trivial, keyD (lt, r), key_made (nx2.tk k3.tk) (hny.tk k3.tk) hz, pd.step (by rw [List.getElem?_map, hr']; rfl)⟩⟩⟩
      · obtain rfl := pd.done (by rw [List.length_map, tsl]; exact Nat.le_refl _)
        have kD : Kp [] H2 H3 := Kp.drop hD1 k3
        have kall := k2.trans kD
        have al : acc.length = rs.length := by rw [nk3.length, List.length_map, List.length_map]
        have zl : zs.length = ks.length := by rw [nkz.length, List.length_map]
        have b27 : i * 27 ≤ 8 * 27 := Nat.mul_le_mul (by omega) (Nat.le_refl _)
        refine ⟨g, D1, zs, acc, rfl, rfl, kall.st g _ (by simp) hg, h3, by rw [sizeLine_eq]; omega, fun p hp => ?_⟩
        have kq := Kp.new (S := []) hp (o := .lst (zs ++ acc))
        refine ⟨p, _, ks ++ rs.map fun r => (lt, r), _, rfl, (kp.trans kall).free (by simp) hp, (kp.trans kall).trans kq, (kp1.trans kall).trans kq, upd_same, ?_, fun z hz => ?_, ?_, ?_⟩
        · rw [List.map_append]
          exact NkAll.append ((NkAll.tk kall.tk nkz).tk kq.tk) (NkAll.tk kq.tk nk3)
        · rcases List.mem_append.mp hz with h | h
          · exact ko z h
          · obtain ⟨r, hr', rfl⟩ := List.mem_map.mp h
            exact ⟨hlm, rok r hr'⟩
        · rw [List.length_append, List.length_map]
          omega
        · rw [List.length_append, List.length_map, Nat.add_mul]
          omega
    · rintro σ H' ⟨g, zs, ks, u4, rfl, fg, kp, kp1, hg, nkz, ko, ki, ki2⟩
      have zl : zs.length = ks.length := by rw [nkz.length, List.length_map]
      have b27 : ys.length * 27 ≤ 8 * 27 := Nat.mul_le_mul (by omega) (Nat.le_refl _)
      refine ⟨_, rfl, _, rfl, g, zs, rfl, .inl (SqL.of hg), _, rfl, a, b, zs.length, l, rfl, d0.same kp, by omega, by omega, l0, l1, fun v ps H2 k2 d2 hv pl p0 p1 => ?_⟩
      obtain ⟨pp, vs, rfl, hpp, hvs⟩ := hv.inv_tup
      have ng : g ∉ [a, b] := d0.free fg
      have hg2 := k2.st g _ ng hg
      have nkz2 := NkAll.tk k2.tk nkz
      refine ⟨_, rfl, g, zs, rfl, .inl (SqL.of hg2), (zs.length : Int), rfl, by omega, by omega, fun D1 hD1 => ?_⟩
      rw [Int.toNat_natCast]
      have zpl : (ks.zip ps).length = zs.length := by rw [List.length_zip]; omega
      refine lc_dataR (K := K) (S := []) (J := J0) (Pd := mapP (ks.zip ps) (pairD ps.sum)) (n := zs.length) (by simp) hD1 hJ0 trivial mapP.zero (by omega) (fun i hi => ?_) fun H3 acc ds k3 _ h3 nk3 pd hdl => ?_
      · intro H3 acc ds R N k3 _ h3 nk3 pd hdl hR hN
        have kk : Kp [] H2 H3 := Kp.drop hD1 k3
        have hi1 : i < ks.length := by omega
        have hi2 : i < ps.length := by omega
        have hz1 : zs[i]? = some zs[i] := List.getElem?_eq_getElem hi
        obtain ⟨kk1, hk1, hn1⟩ := nkAll_map keyD nkz2 hz1
        have hvl : i < vs.length := by rw [hvs.length, List.length_map]; exact hi2
        have hv1 : vs[i]? = some vs[i] := List.getElem?_eq_getElem hvl
        obtain ⟨p1', hp1', hn2⟩ := nkAll_map (fun p => frD p ps.sum) hvs hv1
        have e0 : (0 : Int) + (i : Int) = (i : Int) := by omega
        refine ⟨rfl, tYes_el ⟨_, rfl, _, rfl, g, zs, _, zs[i], rfl, rfl, SqL.of (kk.st g _ (by simp) hg2), by rw [e0]; exact atI_nat hz1, _, rfl, _, rfl, pp, vs, _, vs[i], rfl, rfl, SqT.tk kk.tk hpp, by rw [e0]; exact atI_nat hv1, (by show 2 ≤ sizeLine; decide), fun z hz => hR _ _ ⟨Kp.new hz, trivial, pairD ps.sum (kk1, p1'), Nk.made (.cons (hn1.tk kk.tk) (.cons (hn2.tk kk.tk) .nil)) hz, pd.step ?_⟩⟩⟩
        rw [List.getElem?_zip_eq_some]
        exact ⟨hk1, hp1'⟩
      · obtain rfl := pd.done (by omega)
        have kD : Kp [] H2 H3 := Kp.drop hD1 k3
        have hsum : ((ks.zip ps).map (·.2)).sum = ps.sum := by rw [List.map_snd_zip (by omega)]
        refine ⟨D1, acc, ks.zip ps, ps.sum, rfl, SqL.of h3, nk3, p0, by simp [big]; omega, by rw [hsum]; simp [big]; omega, by omega, fun v H4 trs k4 nk4 fit => ?_⟩
        have kall : Kp [a, b] H H4 := ((kp.nil.trans k2).trans kD.nil).trans k4.nil
        refine k v trs ps.sum H4 kall ((d2.same kD).same k4) nk4 (BookOk.fit (fun y hy => ?_) fit hsum p0 (by simp [big]; omega) (by omega) (by omega))
        have := List.of_mem_zip (a := y.1) (b := y.2) hy
        exact ko y.1 this.1
end
end Wb

namespace Wb
open PySem L2
open PyProof.Rows (envOfC)

/-! ### how long a text of data is -/
structure Shw (n : Nat) (d : NestedKey) : Prop where
  ok : d.data.showable = true
  len : d.data.shown.length ≤ n
theorem Shw.mono {n m : Nat} {d : NestedKey} (h : Shw n d) (k : n ≤ m) : Shw m d := ⟨h.ok, Nat.le_trans h.len k⟩
theorem Shw.num {i : Int} (h : i.natAbs < 2 ^ 40) : Shw 65 (.num i) := by
  have hl : i.natAbs.log2 < 64 := by
    by_cases h0 : i.natAbs = 0
    · rw [h0]; decide
    · exact (Nat.log2_lt h0).mpr (Nat.lt_trans h (by decide))
  refine ⟨?_, ?_⟩
  · unfold NestedKey.data PyData.showable
    exact decide_eq_true (by omega)
  · unfold NestedKey.data PyData.shown
    show (Str.ofString (toString i)).length ≤ 65
    rw [ofString_length]
    exact int_text_length_le (k := 64) (by decide) hl
theorem Shw.text {s : Str} (h : NmOk s) : Shw 1002 (.text s) := by
  refine ⟨by unfold NestedKey.data PyData.showable; rfl, ?_⟩
  unfold NestedKey.data PyData.shown
  have := StrLaws.reprText_len s fun c hc => Nat.lt_trans (h.2 c hc) (by decide)
  have := h.1
  omega
theorem shown_datas : ∀ {n : Nat} {ds : List NestedKey}, (∀ d ∈ ds, Shw n d) → PyData.showableAll (NestedKey.datas ds) = true ∧ piled (PyData.shownAll (NestedKey.datas ds)) ≤ ds.length * (n + 2)
  | n, [], _ => by
    unfold NestedKey.datas PyData.showableAll PyData.shownAll
    exact ⟨rfl, Nat.zero_le _⟩
  | n, d :: ds, h => by
    have h1 := h d (by simp)
    have h2 := shown_datas (n := n) (ds := ds) fun x hx => h x (List.mem_cons_of_mem _ hx)
    rw [NestedKey.datas, PyData.showableAll, PyData.shownAll, piled_cons, h1.ok, h2.1]
    refine ⟨rfl, ?_⟩
    have := h1.len
    rw [List.length_cons, Nat.add_mul]
    omega
theorem tupleText_len (ts : List Str) : (tupleText ts).length ≤ piled ts + 5 := by
  unfold tupleText
  rw [strLen_append, strLen_append]
  have e1 : ((("(" : String) : Str)).length = 1 := rfl
  have e3 : (((if ts.length == 1 then ",)" else ")" : String) : Str)).length ≤ 2 := by split <;> decide
  rw [e1]
  by_cases h : ts = []
  · subst h
    have : (Str.join ", " ([] : List Str)).length = 0 := rfl
    omega
  · have := join_length_add ts h
    omega
theorem Shw.tup {n m : Nat} {ds : List NestedKey} (h : ∀ d ∈ ds, Shw n d) (hl : ds.length ≤ m) : Shw (m * (n + 2) + 5) (.tup ds) := by
  obtain ⟨h1, h2⟩ := shown_datas h
  refine ⟨?_, ?_⟩
  · rw [NestedKey.data, PyData.showable]
    exact h1
  · rw [NestedKey.data, PyData.shown]
    have := tupleText_len (PyData.shownAll (NestedKey.datas ds))
    have := Nat.mul_le_mul_right (n + 2) hl
    omega
theorem Shw.row {r : List Int} {m : Nat} (h : ∀ x ∈ r, 0 ≤ x ∧ x < 3) (hl : r.length ≤ m) : Shw (m * 67 + 5) (rowD r) := by
  refine Shw.tup (n := 65) (fun d hd => ?_) (by rw [List.length_map]; exact hl)
  obtain ⟨x, hx, rfl⟩ := List.mem_map.mp hd
  have := h x hx
  exact Shw.num (by omega)
theorem Shw.lot {r : List Str} (h : ∀ x ∈ r, NmOk x) (hl : r.length ≤ 3) : Shw 3017 (lotD r) := by
  refine (Shw.tup (n := 1002) (m := 3) (fun d hd => ?_) (by rw [List.length_map]; exact hl)).mono (by decide)
  obtain ⟨x, hx, rfl⟩ := List.mem_map.mp hd
  exact Shw.text (h x hx)
theorem Shw.fr {a t : Nat} (ha : a ≤ big) (ht : t ≤ big) : Shw 139 (frD a t) := by
  refine (Shw.tup (n := 65) (m := 2) (fun d hd => ?_) (Nat.le_refl _)).mono (by decide)
  have l1 := fr_le1 a t
  have l2 := fr_le2 a t
  simp [big] at ha ht
  rcases List.mem_cons.mp hd with e | e
  · rw [e]; exact Shw.num (by omega)
  · rw [List.mem_singleton.mp e]; exact Shw.num (by omega)
theorem sum_mem_le {trs : List Tri} {x : Tri} (h : x ∈ trs) : x.2 ≤ (trs.map (·.2)).sum := le_sum (List.mem_map.mpr ⟨x, h, rfl⟩)
theorem Shw.book {qs : Qs} {trs : List Tri} {t : Nat} (q : QsOk qs) (b : BookOk qs trs t) : Shw 9064005 (.tup (trs.map (triD t))) := by
  have T1 := b.due.t1
  refine (Shw.tup (n := 9062) (m := 1000) (fun d hd => ?_) (by rw [List.length_map]; exact b.due.len)).mono (by decide)
  obtain ⟨x, hx, rfl⟩ := List.mem_map.mp hd
  have hs := sum_mem_le hx
  rw [b.due.sum] at hs
  refine (Shw.tup (n := 3017) (m := 3) (fun e he => ?_) (Nat.le_refl _)).mono (by decide)
  have l3 := q.l3
  rcases List.mem_cons.mp he with z | z
  · rw [z]
    exact Shw.lot (fun s hs => by
      obtain ⟨qq, hq, rfl⟩ := List.mem_map.mp ((b.lot x hx).2 s hs)
      exact q.nm qq hq) (b.lot x hx).1
  · rcases List.mem_cons.mp z with z | z
    · rw [z]
      exact (Shw.row (m := 3) (b.rw' x hx).2 (by rw [(b.rw' x hx).1]; exact l3)).mono (by decide)
    · rw [List.mem_singleton.mp z]
      exact (Shw.fr (by omega) T1).mono (by decide)
theorem valN_small {qs : Qs} {n : Node} {lot : List Str} {r : List Int} (h : ∀ x ∈ r, 0 ≤ x ∧ x < 3) : 0 ≤ valN qs n lot r ∧ valN qs n lot r < 3 := by
  unfold valN
  split
  · split <;> omega
  · rw [List.getD_eq_getElem?_getD]
    cases e : r[idx (qs.map (·.1)) n.2]? with
    | none => exact ⟨by decide, by decide⟩
    | some x => exact h x (List.mem_of_getElem? e)
theorem Shw.marg {qs : Qs} {ns : List Node} {trs : List Tri} {t : Nat} (b : BookOk qs trs t) (hn : ns.length ≤ 6) : Shw 825005 (marD qs ns trs t) := by
  have T1 := b.due.t1
  have hl := gat_length (Wb.marg qs ns trs)
  have ml : (Wb.marg qs ns trs).length = trs.length := List.length_map _
  have bl := b.due.len
  refine (Shw.tup (n := 823) (m := 1000) (fun d hd => ?_) (by rw [List.length_map, (srt_perm _).length_eq, List.length_map]; omega)).mono (by decide)
  obtain ⟨k, hk, rfl⟩ := List.mem_map.mp hd
  have hk1 := (srt_perm _).mem_iff.mp hk
  obtain ⟨p, hp, rfl⟩ := List.mem_map.mp hk1
  have hv := val_le_tot (gat (Wb.marg qs ns trs)) p.1
  rw [gat_tot, tot_marg, b.due.sum] at hv
  have hrow : ∃ r : List Int, p.1 = rowD r ∧ r.length ≤ 6 ∧ ∀ x ∈ r, 0 ≤ x ∧ x < 3 := gat_keys (P := fun k => ∃ r : List Int, k = rowD r ∧ r.length ≤ 6 ∧ ∀ x ∈ r, 0 ≤ x ∧ x < 3) (Wb.marg qs ns trs) (fun y hy => by
    obtain ⟨x, hx, rfl⟩ := List.mem_map.mp hy
    refine ⟨_, rfl, by rw [List.length_map]; exact hn, fun z hz => ?_⟩
    obtain ⟨n, _, rfl⟩ := List.mem_map.mp hz
    exact valN_small (b.rw' x hx).2) p hp
  obtain ⟨r, e, r6, hr⟩ := hrow
  refine (Shw.tup (n := 407) (m := 2) (fun e2 he => ?_) (Nat.le_refl _)).mono (by decide)
  rcases List.mem_cons.mp he with z | z
  · rw [z, e]
    exact (Shw.row (m := 6) hr r6).mono (by decide)
  · rw [List.mem_singleton.mp z]
    exact (Shw.fr (by omega) T1).mono (by decide)

/-! ### data that may be compared -/
mutual
def LayOk : NestedKey → Prop
  | .none => True
  | .num _ => True
  | .text s => Sm s
  | .tup ks => LaysOk ks
def LaysOk : List NestedKey → Prop
  | [] => True
  | k :: ks => LayOk k ∧ LaysOk ks
end
theorem Sm.ok {s : Str} (h : Sm s) : PyData.strOk s = true := by
  unfold PyData.strOk
  rw [← Array.all_toList, List.all_eq_true]
  intro c hc
  exact decide_eq_true (Nat.lt_trans (h c hc) (by decide))
mutual
theorem lay_of : ∀ {d : NestedKey}, LayOk d → d.data.canLay0 = true
  | .none, _ => by rw [NestedKey.data, PyData.canLay0]
  | .num _, _ => by rw [NestedKey.data, PyData.canLay0]
  | .text s, h => by
    rw [LayOk] at h
    rw [NestedKey.data, PyData.canLay0]
    exact h.ok
  | .tup ks, h => by
    rw [LayOk] at h
    rw [NestedKey.data, PyData.canLay0]
    exact lays_of h
theorem lays_of : ∀ {ds : List NestedKey}, LaysOk ds → PyData.canLayAll0 (NestedKey.datas ds) = true
  | [], _ => by rw [NestedKey.datas, PyData.canLayAll0]
  | d :: ds, h => by
    rw [LaysOk] at h
    rw [NestedKey.datas, PyData.canLayAll0, lay_of h.1, lays_of h.2]
    rfl
end
theorem lays_all : ∀ {ds : List NestedKey}, (∀ d ∈ ds, LayOk d) → LaysOk ds
  | [], _ => by rw [LaysOk]; trivial
  | d :: ds, h => by
    rw [LaysOk]
    exact ⟨h d (by simp), lays_all fun x hx => h x (List.mem_cons_of_mem _ hx)⟩
theorem LayOk.tup {ds : List NestedKey} (h : ∀ d ∈ ds, LayOk d) : LayOk (.tup ds) := by
  rw [LayOk]
  exact lays_all h
theorem LayOk.num (i : Int) : LayOk (.num i) := by rw [LayOk]; trivial
theorem LayOk.row (r : List Int) : LayOk (rowD r) := LayOk.tup fun d hd => by
  obtain ⟨x, _, rfl⟩ := List.mem_map.mp hd
  exact LayOk.num x
theorem LayOk.tri {qs : Qs} {trs : List Tri} {t : Nat} (q : QsOk qs) (b : BookOk qs trs t) {x : Tri} (hx : x ∈ trs) : LayOk (triD t x) := LayOk.tup fun d hd => by
  rcases List.mem_cons.mp hd with z | z
  · rw [z]
    refine LayOk.tup fun e he => ?_
    obtain ⟨s, hs, rfl⟩ := List.mem_map.mp he
    obtain ⟨qq, hq, rfl⟩ := List.mem_map.mp ((b.lot x hx).2 s hs)
    rw [LayOk]
    exact (q.nm qq hq).2
  · rcases List.mem_cons.mp z with z | z
    · rw [z]; exact LayOk.row _
    · rw [List.mem_singleton.mp z]
      refine LayOk.tup fun e he => ?_
      rcases List.mem_cons.mp he with y | y
      · rw [y]; exact LayOk.num _
      · rw [List.mem_singleton.mp y]; exact LayOk.num _
theorem tri_depth (t : Nat) (x : Tri) : (triD t x).depth ≤ 2 := by
  show (NestedKey.tup [.tup (x.1.1.map .text), .tup (x.1.2.map .num), .tup [.num ((fr x.2 t).1 : Nat), .num ((fr x.2 t).2 : Nat)]]).depth ≤ 2
  rw [NestedKey.depth, NestedKey.depthAll, NestedKey.depthAll, NestedKey.depthAll, NestedKey.depthAll, NestedKey.depth, NestedKey.depth, NestedKey.depth, depths_texts, depths_ints, NestedKey.depthAll, NestedKey.depthAll, NestedKey.depthAll, NestedKey.depth, NestedKey.depth]
  decide
theorem tri_shaped {qs : Qs} {trs : List Tri} {t : Nat} (q : QsOk qs) (b : BookOk qs trs t) {x : Tri} (hx : x ∈ trs) : SeqAt.shaped (triD t x).data = true := by
  unfold SeqAt.shaped
  rw [lay_of (LayOk.tri q b hx), data_depth]
  have := tri_depth t x
  rw [decide_eq_true (by omega)]
  rfl
theorem depthAll_le {n : Nat} : ∀ {ds : List NestedKey}, (∀ d ∈ ds, d.depth ≤ n) → NestedKey.depthAll ds ≤ n
  | [], _ => by rw [NestedKey.depthAll]; exact Nat.zero_le _
  | d :: ds, h => by
    rw [NestedKey.depthAll]
    exact Nat.max_le.mpr ⟨h d (by simp), depthAll_le fun x hx => h x (List.mem_cons_of_mem _ hx)⟩
theorem book_depth (t : Nat) (trs : List Tri) : (NestedKey.tup (trs.map (triD t))).depth ≤ 8 := by
  rw [NestedKey.depth]
  have := depthAll_le (n := 2) (ds := trs.map (triD t)) fun d hd => by
    obtain ⟨x, _, rfl⟩ := List.mem_map.mp hd
    exact tri_depth t x
  omega
theorem marD_depth (qs : Qs) (ns : List Node) (trs : List Tri) (t : Nat) : (marD qs ns trs t).depth ≤ 8 := by
  unfold marD
  rw [NestedKey.depth]
  have := depthAll_le (n := 2) (ds := (srt ((gat (marg qs ns trs)).map (·.1))).map fun k => prD t (k, val (gat (marg qs ns trs)) k)) fun d hd => by
    obtain ⟨k, hk, rfl⟩ := List.mem_map.mp hd
    obtain ⟨p, hp, rfl⟩ := List.mem_map.mp ((srt_perm _).mem_iff.mp hk)
    have h1 : p.1.depth ≤ 1 := gat_keys (P := fun k => k.depth ≤ 1) (marg qs ns trs) (fun y hy => by
      obtain ⟨x, _, rfl⟩ := List.mem_map.mp hy
      exact row_depth _) p hp
    show (NestedKey.tup [p.1, .tup [.num _, .num _]]).depth ≤ 2
    rw [NestedKey.depth, NestedKey.depthAll, NestedKey.depthAll, NestedKey.depthAll, NestedKey.depth, NestedKey.depthAll, NestedKey.depthAll, NestedKey.depthAll, NestedKey.depth, NestedKey.depth]
    omega
  omega
end Wb

namespace Wb
open PySem L2
open PyProof.Rows (envOfC)

/-! ### rules that the law's def wants -/
/-- a class of the text that is made by its __init__ -/
def Mad (P : Program) (w : World) (K : PySem.W.Frag) (mg : Str → Option Value) (base : Heap) (k : Nat) (x : Str) (C : Addr) (ps : List Str) (sp : Sp) : Prop :=
  ∃ f fd, Mk K C f ∧ FnOk P w K mg base CX0 k f fd ps sp ∧ Binds K fd ps [] ∧ mg x = some (.ref C)
theorem seq_with {t u : TS} {D : Ends} {σ : L2.St} {H : Hp} (G : L2.St → Hp → Prop) (h1 : ∀ N : L2.St → Hp → Prop, (∀ σ' H', G σ' H' → N σ' H') → t { D with nx := N } σ H) (h2 : ∀ σ' H', G σ' H' → u D σ' H') : tSeq t u D σ H := h1 (u D) h2
theorem test_join {tt : TT} {σ : L2.St} {H : Hp} {Q : Bool → Hp → Prop} (G : Bool → Hp → Prop) (h1 : ∀ Q' : Bool → Hp → Prop, (∀ c H', G c H' → Q' c H') → tt σ H Q') (h2 : ∀ c H', G c H' → Q c H') : tt σ H Q := h1 Q h2
section
variable {X : Cx} {k : Nat} {x : Str} {C : Addr} {ps ks : List Str} {sp : Sp} {p pos : Pos} {e o : Expr} {es : List Expr} {kws : List Keyword} {t tk : TA} {te to : TE} {g : List Value → List Value → List Value} {gV : List V → List V → List V}
theorem pe_mk (M : Mad X.prog X.w X.K X.mg X.base k x C ps sp) (hr : Room (k + 1) X.A) (ha : PA X (e :: es) t) (hg : Gl X x := by rfl) (hdb : (x == ("__debug__" : Str)) = false := by decide)
    (he : starEach (e :: es) X.env = (false, eval e X.env) :: starEach es X.env := by rfl) (hpl : (backTo pos (starEach es X.env)).any (·.1) = false := by rfl) : PE X (.Call (.Name x p) (e :: es) [] pos) (tMake C sp [] E0 t) := by
  obtain ⟨f, fd, m, F, b, hm⟩ := M
  exact pe_make m F hr hg hm b .nil pass0 ha hdb he hpl
/-- all arguments by name -/
theorem pe_calK (c : CalK X.prog X.w X.K X.mg X.base k x ps ks g gV sp) (hr : Room k X.A) (hkw : PK X kws tk) (hg : Gl X x := by rfl) (hdb : (x == ("__debug__" : Str)) = false := by decide)
    (hall : (backToKw pos (keywordEach kws X.env)).all (·.1.isSome) = true := by rfl) (hks : (backToKw pos (keywordEach kws X.env)).filterMap (·.1) = ks := by rfl)
    (hpl : ((backTo pos (starEach [] X.env)).any (·.1) || (backToKw pos (keywordEach kws X.env)).any (·.1.isNone)) = false := by rfl) : PE X (.Call (.Name x p) [] kws pos) (tCallK sp gV E0 tNil tk) := by
  obtain ⟨f, fd, F, m, kp, _, kb⟩ := c
  refine ⟨fun pins s σ H Q I h => wpAny_Call_Name_kw (ld_glob I hg m ?_ hdb)⟩
  refine PySem.W.callWith_KW0 (h₀ := X.base) I.ok.mod.kin kp hall (thn (hkw.run pos pins s σ H _ I h) fun ws s2 ⟨zs, H2, I2, rz, q2⟩ => ⟨I2.kIn, ?_⟩) hpl
  rw [hks]
  exact run_fnk (us := []) (vs := []) F hr kb pass0 I2 .nil rz q2
theorem w_repr (hu : X.A.units + 64 < cLine) (hg' : X.A.guards = some []) (m : X.mg "repr" = none) (h : PE X e te) (hg : Gl X "repr" := by rfl) (he : starEach [e] X.env = (false, eval e X.env) :: starEach [] X.env := by rfl) : PE X (.Call (.Name "repr" p) [e] [] pos) (tCB (rRepr X.K) (tCons te tNil)) :=
  pe_callB (cr_repr hu hg') hg m PyProof.Rows.boot_repr (pa_cons h pa_nil he) (by decide) (by decide) he rfl
theorem op_eqDK {K : PySem.W.Frag} (hK : X.K = K) (hu : X.A.units + 64 < cLine) : OpR X (compareOp .Eq) (rEqD K) := by
  subst hK
  exact op_eqD hu
theorem sl_tupAK {K : PySem.W.Frag} (hK : X.K = K) : SlR X (rSlA K) := by
  subst hK
  exact sl_tupA
end

section
variable {P : Program} {w : World} {K : PySem.W.Frag} {mg : Str → Option Value} {base : Heap} {CF CB : Addr}
/-! ### Form, Book -/
def spFormInit (C : Addr) : Sp := fun vs H Q _ => ∃ (p dx : Addr) (q : V), vs = [.ref p, q] ∧ H p = some (.ins C dx []) ∧ ∀ H', Kp [p] H H' → FormAt C H' p q → Q .non H'
def spBookInit (C : Addr) : Sp := fun vs H Q _ => ∃ (p dx : Addr) (f s : V), vs = [.ref p, f, s] ∧ H p = some (.ins C dx []) ∧ ∀ H', Kp [p] H H' → BookAt C H' p f s → Q .non H'
abbrev pFormInit : List Str := ["self", "questions"]
abbrev pBookInit : List Str := ["self", "form", "shares"]
theorem scFormInit : FnScope pFormInit pFormInit (defScope sFormInit) := ⟨rfl, rfl, rfl, by decide +kernel, rfl, by decide +kernel, by decide +kernel⟩
theorem scBookInit : FnScope pBookInit pBookInit (defScope sBookInit) := ⟨rfl, rfl, rfl, by decide +kernel, rfl, by decide +kernel, by decide +kernel⟩
theorem fs_ne : ¬ (("form" : Str) = "shares") := by decide +kernel
theorem Kp.ins {S : List Addr} {H : Hp} {p : Addr} {o : HO} {C dx : Addr} {fs : List (Str × V)} (hp : p ∈ S) (h : H p = some (.ins C dx fs)) : Kp S H (L2.upd H p o) := Kp.upd hp h (fun _ q => nomatch q) (fun _ _ q => nomatch q)
theorem ok_formInit {f : Addr} {fd : FuncData} (F : Fun K "__init__" "Form.__init__" sFormInit f fd) (c : Cl K CF CB) : FnOk P w K mg base CX0 1 f fd pFormInit (spFormInit CF) := by
  refine F.ok scFormInit (fun vs H Q E h => ?_) (fun cdv A outer s H vs Q E hr h => ?_)
  · obtain ⟨p, dx, q, rfl, _⟩ := h
    rfl
  · obtain ⟨p, dx, q, rfl, hp, k⟩ := h
    refine ⟨_, pss_one (ps_fld (pv 0) (pv 1) rfl), ?_⟩
    refine ⟨_, rfl, _, rfl, p, CF, dx, [], rfl, hp, c.clF, c.nQ, (by show 0 < 1000; decide), ?_⟩
    exact k _ (Kp.ins (by simp) hp) ⟨dx, _, upd_same, by rw [lookup_putF, if_pos rfl]⟩
theorem ok_bookInit {f : Addr} {fd : FuncData} (F : Fun K "__init__" "Book.__init__" sBookInit f fd) (c : Cl K CF CB) : FnOk P w K mg base CX0 1 f fd pBookInit (spBookInit CB) := by
  refine F.ok scBookInit (fun vs H Q E h => ?_) (fun cdv A outer s H vs Q E hr h => ?_)
  · obtain ⟨p, dx, q, s, rfl, _⟩ := h
    rfl
  · obtain ⟨p, dx, q, s, rfl, hp, k⟩ := h
    refine ⟨_, pss_cons (ps_fld (pv 0) (pv 1) rfl) (pss_one (ps_fld (pv 0) (pv 2) rfl)), ?_⟩
    refine ⟨_, rfl, _, rfl, p, CB, dx, [], rfl, hp, c.clB, c.nF, (by show 0 < 1000; decide), ?_⟩
    refine ⟨_, rfl, _, rfl, p, CB, dx, _, rfl, upd_same, c.clB, c.nS, (by show 1 < 1000; decide), ?_⟩
    refine k _ ((Kp.ins (by simp) hp).trans (Kp.ins (by simp) upd_same)) ⟨dx, _, upd_same, ?_, ?_⟩
    · rw [lookup_putF, if_neg fs_ne, lookup_putF, if_pos rfl]
    · rw [lookup_putF, if_pos rfl]
theorem made_kp {H H' : Hp} {x dx : Addr} {o o2 : HO} (hx : H x = none) (hdx : H dx = none) (ne : dx ≠ x) (k : Kp [x] (L2.upd (L2.upd H dx o) x o2) H') : Kp [] H H' := by
  have k1 := Kp.new (S := []) hdx (o := o)
  have hx1 : L2.upd H dx o x = none := by rw [upd_ne ne.symm]; exact hx
  exact k1.trans (Kp.drop hx1 ((Kp.new (S := [x]) hx1 (o := o2)).trans k))

/-! ### all that the law's def calls -/
structure Mine (P : Program) (w : World) (K : PySem.W.Frag) (mg : Str → Option Value) (base : Heap) (CF CB : Addr) : Prop where
  T : Txt mg
  cl : Cl K CF CB
  dl : Cal P w K mg base 1 "_law_deal" ["_law_script", "_law_base"] (spDeal K)
  an : Cal P w K mg base 1 "_law_any" pAny spAny
  qu : Cal P w K mg base 4 "_law_questions" pQuestions (spQuestions K)
  dr : Cal P w K mg base 6 "_law_drawn" pDrawn (spDrawn K)
  su : Cal P w K mg base 4 "_law_sum" pSum (spSum K)
  ov : Cal P w K mg base 3 "_law_over" pPlusL (spOver K)
  tr : Cal P w K mg base 5 "_law_triples" pTriples (spTriples K)
  no : Cal P w K mg base 1 "_law_nodes" pQ (spNodes K)
  ma : CalK P w K mg base 3 "margin" pMargin ["nodes", "book"] gM gMV (spMargin K CF CB)
  ml : Cal P w K mg base 5 "_law_margin" pMarginL (spMarginL K)
  fo : Mad P w K mg base 1 "Form" CF pFormInit (spFormInit CF)
  bo : Mad P w K mg base 1 "Book" CB pBookInit (spBookInit CB)
end
/-- some of the shares, the first among them -/
def subP (trs : List Tri) (t : Nat) (i : Nat) (ds : List NestedKey) : Prop := ∃ sub : List Tri, ds = sub.map (pairD t) ∧ (∀ x ∈ sub, x ∈ trs) ∧ (sub.map (·.2)).sum ≤ ((trs.take i).map (·.2)).sum ∧ sub.length ≤ i ∧ (1 ≤ i → sub ≠ [])
theorem subP.keep {trs : List Tri} {t i : Nat} {ds : List NestedKey} {x : Tri} (h : subP trs t i ds) (hx : trs[i]? = some x) : subP trs t (i + 1) (ds ++ [pairD t x]) := by
  obtain ⟨sub, rfl, h1, h2, h3, h4⟩ := h
  refine ⟨sub ++ [x], by simp, fun y hy => ?_, ?_, by simp; omega, fun _ => by simp⟩
  · rcases List.mem_append.mp hy with z | z
    · exact h1 y z
    · rw [List.mem_singleton.mp z]; exact List.mem_of_getElem? hx
  · rw [List.take_add_one, hx, List.map_append, List.map_append, List.sum_append, List.sum_append]
    exact Nat.add_le_add h2 (Nat.le_refl _)
theorem subP.skip {trs : List Tri} {t i : Nat} {ds : List NestedKey} {x : Tri} (h : subP trs t i ds) (hx : trs[i]? = some x) (hi : 1 ≤ i) : subP trs t (i + 1) ds := by
  obtain ⟨sub, rfl, h1, h2, h3, h4⟩ := h
  refine ⟨sub, rfl, h1, ?_, by omega, fun _ => h4 hi⟩
  rw [List.take_add_one, hx, List.map_append, List.sum_append]
  exact Nat.le_trans h2 (Nat.le_add_right _ _)
def nodesP (qs : Qs) (i : Nat) (ds : List NestedKey) : Prop := ∃ ns : List Node, ds = ns.map nodeD ∧ (∀ n ∈ ns, n ∈ allNodes qs) ∧ ns.length ≤ i
theorem nodesP.keep {qs : Qs} {i : Nat} {ds : List NestedKey} {n : Node} (h : nodesP qs i ds) (hn : n ∈ allNodes qs) : nodesP qs (i + 1) (ds ++ [nodeD n]) := by
  obtain ⟨ns, rfl, h1, h2⟩ := h
  refine ⟨ns ++ [n], by simp, fun y hy => ?_, by simp; omega⟩
  rcases List.mem_append.mp hy with z | z
  · exact h1 y z
  · rw [List.mem_singleton.mp z]; exact hn
theorem nodesP.skip {qs : Qs} {i : Nat} {ds : List NestedKey} (h : nodesP qs i ds) : nodesP qs (i + 1) ds := by
  obtain ⟨ns, rfl, h1, h2⟩ := h
  exact ⟨ns, rfl, h1, by omega⟩
theorem allNodes_len (qs : Qs) : (allNodes qs).length = 2 * qs.length := by
  unfold allNodes
  rw [List.length_append, List.length_map, List.length_map]
  omega
theorem ne_self (x : V) : (!decide (x = x)) = false := by simp
end Wb

namespace Wb
open PySem L2
open PyProof.Rows (envOfC)

theorem at_2 {u v x : V} : atI [u, v, x] 2 = some x := at_of (j := 2) rfl rfl
section
variable {P : Program} {w : World} {K : PySem.W.Frag} {mg : Str → Option Value} {base : Heap} {CF CB : Addr}
abbrev nLaw : List Str := ["_law_script", "_law_deal_here", "_law_turn", "_law_questions_here", "_law_due", "_law_some", "_law_whole", "_law_book", "_law_step", "_law_nodes_here", "_law_key", "_law_share", "_law_node"]
abbrev pLaw : List Str := ["_law_script"]
theorem scLaw : FnScope nLaw pLaw (defScope sLaw) := ⟨rfl, rfl, rfl, by decide +kernel, rfl, by decide +kernel, by decide +kernel⟩
theorem fold_sum {sub : List Tri} : sub.map (fun x => x.2) = sub.map (·.2) := rfl
theorem law_body (M : Mine P w K mg base CF CB) {f : Addr} {cdv : Value} {A : Around} {outer : List Env} {sh0 : Shared} {H : Hp} {Q : VK} {E : XK} {l : Addr} {ns : List Int} (hr : Room 6 (A.deeper (envOfC "law" (defScope sLaw) sh0.heap.objs.size f cdv)))
    (hgd : (A.deeper (envOfC "law" (defScope sLaw) sh0.heap.objs.size f cdv)).guards = some []) (hS : SqL K H l (ns.map V.int)) (hl : ns.length ≤ 63) (k : ∀ H', Q (.bl true) H') :
    ∃ t, PSs (cxOf CX0 P w K mg base nLaw "law" (defScope sLaw) f cdv A outer sh0 H E).nox (defBody sLaw) t ∧ t { nx := fun _ H' => Q .non H', rt := Q } (start nLaw [.ref l]) H := by
  have T := M.T
  have hu := hr.units
  have hr1 : Room 1 (A.deeper (envOfC "law" (defScope sLaw) sh0.heap.objs.size f cdv)) := hr.mono (by decide)
  have hr2 : Room 2 (A.deeper (envOfC "law" (defScope sLaw) sh0.heap.objs.size f cdv)) := hr.mono (by decide)
  have hr3 : Room 3 (A.deeper (envOfC "law" (defScope sLaw) sh0.heap.objs.size f cdv)) := hr.mono (by decide)
  have hr4 : Room 4 (A.deeper (envOfC "law" (defScope sLaw) sh0.heap.objs.size f cdv)) := hr.mono (by decide)
  have hr5 : Room 5 (A.deeper (envOfC "law" (defScope sLaw) sh0.heap.objs.size f cdv)) := hr.mono (by decide)
  refine ⟨_, pss_cons (ps_set (i := 1) scLaw.nd rfl (Or.inr rfl) (pe_cal M.dl hr1 (pa_cons (pv 0) (pa_cons pe_int pa_nil))))
    (pss_cons (ps_for PassesOwn.never rfl (pi_range1 rfl T.range (pa_cons pe_int pa_nil)) (pg_name (i := 2) scLaw.nd rfl (Or.inl rfl))
      (pss_cons (ps_set (i := 3) scLaw.nd rfl (Or.inl rfl) (pe_cal M.qu hr4 (pa_cons (pv 1) (pa_cons pe_int pa_nil))))
      (pss_cons (ps_set (i := 4) scLaw.nd rfl (Or.inr rfl) (pe_cal M.dr hr (pa_cons (pv 1) (pa_cons (pv 3) (pa_cons (pe_cal M.an hr1 (pa_cons (pv 1) (pa_cons pe_int pa_nil))) pa_nil)))))
      (pss_cons (ps_if (pt_cmpR op_eq (pe_cal M.an hr1 (pa_cons (pv 1) (pa_cons pe_int pa_nil))) pe_int (nomark _))
          (pss_cons (ps_setLc (i := 5) (own := [("_law_key", 10)]) (g := gName 10) rfl scLaw.nd rfl rfl (sw_true rfl rfl rfl (by decide +kernel)) (pi_tup (pv 4)) (blkOk_by (own := [("_law_key", 10)]) (N := nLaw) (sc := defScope sLaw) (by decide +kernel))
              (fun _ _ _ _ _ => pg_name (i := 10) scLaw.nd rfl (Or.inl rfl))
              (fun _ _ _ _ _ => pts_one (pw_or (pt_cmpR op_eq (pe_cal M.an hr1 (pa_cons (pv 1) (pa_cons pe_int pa_nil))) pe_int (nomark _)) (pw_or1 (pt_cmpR (op_eqDK (K := K) rfl hu) (pv 10) (pe_ix (ix_tupK (K := K) rfl) (pv 4) pe_int (fun _ _ => rfl)) (nomark _)))).pt)
              (fun _ _ _ _ _ => pe_tup (pa_cons (pe_slice (sl_tupAK (K := K) rfl) (pv 10) po_none (po_some pe_int)) (pa_cons (pe_ix (ix_tupK (K := K) rfl) (pv 10) pe_int (fun _ _ => rfl)) pa_nil))))
          (pss_cons (ps_set (i := 6) scLaw.nd rfl (Or.inr rfl) (pe_cal M.su hr4 (pa_cons (pe_lc (own := [("_law_key", 10), ("_law_share", 11)]) (g := gTup K 2 (gCons (gName 10) (gCons (gName 11) gNil))) rfl scLaw.nd (pi_list (pv 5))
              (blkOk_by (own := [("_law_key", 10), ("_law_share", 11)]) (N := nLaw) (sc := defScope sLaw) (by decide +kernel))
              (fun _ _ _ _ _ => pg_tup rfl (pgs_cons (pg_name (i := 10) scLaw.nd rfl (Or.inl rfl)) (pgs_cons (pg_name (i := 11) scLaw.nd rfl (Or.inl rfl)) pgs_nil)))
              (fun _ _ _ _ _ => pts_nil) (fun _ _ _ _ _ => pv 11)) pa_nil)))
          (pss_one (ps_set (i := 4) scLaw.nd rfl (Or.inr rfl) (pe_cal M.tr hr5 (pa_cons (pe_lc (own := [("_law_key", 10), ("_law_share", 11)]) (g := gTup K 2 (gCons (gName 10) (gCons (gName 11) gNil))) rfl scLaw.nd (pi_list (pv 5))
              (blkOk_by (own := [("_law_key", 10), ("_law_share", 11)]) (N := nLaw) (sc := defScope sLaw) (by decide +kernel))
              (fun _ _ _ _ _ => pg_tup rfl (pgs_cons (pg_name (i := 10) scLaw.nd rfl (Or.inl rfl)) (pgs_cons (pg_name (i := 11) scLaw.nd rfl (Or.inl rfl)) pgs_nil)))
              (fun _ _ _ _ _ => pts_nil) (fun _ _ _ _ _ => pe_tup (pa_cons (pv 10) (pa_cons (pe_cal M.ov hr3 (pa_cons (pv 11) (pa_cons (pv 6) pa_nil))) pa_nil)))) pa_nil))))))
          pss_nil)
      (pss_cons (ps_set (i := 7) scLaw.nd rfl (Or.inl rfl) (pe_mk M.bo hr2 (pa_cons (pe_mk M.fo hr2 (pa_cons (pv 3) pa_nil)) (pa_cons (pv 4) pa_nil))))
      (pss_cons (ps_for PassesOwn.never rfl (pi_range1 rfl T.range (pa_cons pe_int pa_nil)) (pg_name (i := 8) scLaw.nd rfl (Or.inl rfl))
          (pss_cons (ps_set (i := 9) scLaw.nd rfl (Or.inl rfl) (w_tuple T.tuple (pe_lc (own := [("_law_node", 12)]) (g := gName 12) rfl scLaw.nd (pi_list (pe_cal M.no hr1 (pa_cons (pv 3) pa_nil)))
              (blkOk_by (own := [("_law_node", 12)]) (N := nLaw) (sc := defScope sLaw) (by decide +kernel)) (fun _ _ _ _ _ => pg_name (i := 12) scLaw.nd rfl (Or.inl rfl))
              (fun _ _ _ _ _ => pts_one (pt_cmpR op_eq (pe_cal M.an hr1 (pa_cons (pv 1) (pa_cons pe_int pa_nil))) pe_int (nomark _))) (fun _ _ _ _ _ => pv 12))))
          (pss_one (ps_if (pt_cmpR op_ne (w_repr hu hgd T.repr (pe_calK M.ma hr3 (pk_cons (pv 9) (pk_cons (pv 7) pk_nil)))) (w_repr hu hgd T.repr (pe_cal M.ml hr5 (pa_cons (pv 3) (pa_cons (pv 4) (pa_cons (pv 9) pa_nil))))) (nomark _)) pss_never pss_nil))))
      (pss_one (ps_if (pw_or (pt_cmpR op_ne (w_repr hu hgd T.repr (pe_cal M.ma.cal hr3 (pa_cons (pv 7) (pa_cons (pe_tup pa_nil) pa_nil))))
            (w_repr hu hgd T.repr (pe_tup (pa_cons (pe_tup (pa_cons (pe_tup pa_nil) (pa_cons (pe_tup (pa_cons pe_int (pa_cons pe_int pa_nil))) pa_nil))) pa_nil))) (nomark _))
          (pw_or1 (pt_cmpR op_ne (w_repr hu hgd T.repr (pe_fld (pv 7) rfl)) (w_repr hu hgd T.repr (pv 4)) (nomark _)))).pt pss_never pss_nil))))))))
    (pss_one (ps_ret pe_bl))), ?_⟩
  refine ⟨_, rfl, l, ns, rfl, hS, hl, fun a b H1 ha hb k1 d1 => ?_⟩
  refine ⟨3, rfl, by decide, by decide, for_range (fun i σ H' => ∃ u2 u3 u4 u5 u6 u7 u8 u9 : Option V, σ = [some (.ref l), some (.ref a), u2, u3, u4, u5, u6, u7, u8, u9, none, none, none] ∧ Deal H' a b)
    ⟨_, _, _, _, _, _, _, _, rfl, d1⟩ ?_ ?_⟩
  · rintro i σ H' hi ⟨u2, u3, u4, u5, u6, u7, u8, u9, rfl, d⟩
    refine ⟨_, rfl, a, b, rfl, d, fun q qs H2 k2 d2 hq ok => ?_⟩
    refine ⟨_, rfl, _, rfl, _, rfl, a, b, 2, rfl, d2, by decide, by decide, fun x H3 x0 x1 k3 d3 => ?_⟩
    refine ⟨a, b, q, qs, x, rfl, d3, hq.tk k3.tk, ok, x0, by omega, fun due trs t H4 k4 d4 hdue bk => ?_⟩
    have hq4 := (hq.tk k3.tk).tk k4.tk
    dsimp only
    refine seq_with (G := fun σ' H' => ∃ (due : V) (trs : List Tri) (t : Nat) (u2 u5 u6 : Option V), σ' = [some (.ref l), some (.ref a), u2, some q, some due, u5, u6, u7, u8, u9, none, none, none] ∧ Deal H' a b ∧ Nk K H' q (qsD qs) ∧ Nk K H' due (.tup (trs.map (triD t))) ∧ BookOk qs trs t) (fun N hN => ?_) ?_
    · refine ⟨_, rfl, a, b, 3, rfl, d4, by decide, by decide, fun y H5 y0 y1 k5 d5 => ⟨rfl, _, rfl, ite2 (fun _ => ?_) fun _ => hN _ _ ⟨due, trs, t, _, _, _, rfl, d5, hq4.tk k5.tk, hdue.tk k5.tk, bk⟩⟩⟩
      have hq5 := hq4.tk k5.tk
      have hdue5 := hdue.tk k5.tk
      obtain ⟨pd, xs, rfl, hpd, hxs⟩ := hdue5.inv_tup
      have xl : xs.length = trs.length := by rw [hxs.length, List.length_map]
      have bl := bk.due.len
      have T0 := bk.due.t0
      have T1 := bk.due.t1
      refine ⟨_, rfl, pd, rfl, ⟨_, hpd⟩, fun D1 hD1 => ?_⟩
      have nD1 := d5.free hD1
      refine lc_dataT (K := K) (S := [a, b]) (J := fun H' => Deal H' a b) (Pd := subP trs t) (xs := xs) hpd nD1 hD1 (fun H H' kk j => j.kpD nD1 kk) d5 ⟨[], rfl, by simp, Nat.zero_le _, Nat.le_refl _, fun h => absurd h (by decide)⟩ (by omega) (fun i x hx => ?_) fun H6 acc ds k6 d6 h6 nk6 pd' hdl => ?_
      · intro H6 acc ds R N k6 d6 h6 nk6 pd' hdl hR hN'
        obtain ⟨tr, htr, hn3⟩ := nkAll_map (triD t) hxs hx
        have hmem := List.mem_of_getElem? htr
        have hx6 : Nk K H6 x (triD t tr) := hn3.tk k6.tk
        have hpd6 : SqT K H6 pd xs := SqT.tk k6.tk hpd
        have hpos : 0 < xs.length := by have := (List.getElem?_eq_some_iff.mp hx).1; omega
        have hx0 : xs[0]? = some xs[0] := List.getElem?_eq_getElem hpos
        obtain ⟨tr0, htr0, hn0⟩ := nkAll_map (triD t) hxs hx0
        refine ⟨rfl, test_join (G := fun c H7 => Kp [a, b] H6 H7 ∧ Deal H7 a b ∧ (c = false → 1 ≤ i)) (fun Q' hQ' => ?_) ?_⟩
        · refine ⟨_, rfl, a, b, 3, rfl, d6, by decide, by decide, fun z H7 z0 z1 k7 d7 => ⟨rfl, _, rfl, ite2 (fun _ => hQ' true H7 ⟨k7, d7, fun h => by cases h⟩) fun _ => ?_⟩⟩
          refine ⟨_, rfl, _, rfl, pd, xs, 0, xs[0], rfl, rfl, SqT.tk k7.tk hpd6, atI_nat (j := 0) hx0, (triD t tr).data, (triD t tr0).data, (hx6.tk k7.tk).dp, ((hn0.tk k6.tk).tk k7.tk).dp, tri_shaped ok bk hmem, tri_shaped ok bk (List.mem_of_getElem? htr0), _, rfl, hQ' _ H7 ⟨k7, d7, fun hc => ?_⟩⟩
          rcases Nat.eq_zero_or_pos i with e | e
          · subst e
            rw [htr0] at htr
            cases htr
            rw [SeqAt.eqv_refl _ (lay_of (LayOk.tri ok bk hmem))] at hc
            cases hc
          · exact e
        · rintro c H7 ⟨k7, d7, hc⟩
          cases c with
          | true =>
            refine iteT ?_
            obtain ⟨kk, lo, ro, sh, rfl, hkk, hlo, hro, hsh⟩ := tri_at (hx6.tk k7.tk)
            refine ⟨_, rfl, 2, rfl, kk, _, rfl, hkk, fun h => absurd h.2 (by show ¬ (HT.sIx 3 3 (some 2) = 3); decide), fun _ p hp => ?_⟩
            have kp := Kp.new (S := [a, b]) hp (o := .tup (cutV [lo, ro, sh] none (some 2)))
            refine ⟨_, rfl, kk, _, 2, _, rfl, rfl, SqT.tk kp.tk hkk, at_2, (by show 2 ≤ sizeLine; decide), fun z hz => hR _ _ ⟨(k7.trans kp).trans (Kp.new hz), (d7.newD hp).newD hz, pairD t tr, ?_, pd'.keep htr⟩⟩
            exact Nk.made (.cons (key_made (l := tr.1.1) (r := tr.1.2) hlo hro hp) (.cons (hsh.tk kp.tk) .nil)) hz
          | false => exact iteF (hN' _ k7 d7 (pd'.skip htr (hc rfl)))
      · obtain ⟨sub, rfl, sm, ss, sl, se⟩ := pd'
        have kD : Kp [a, b] H5 H6 := Kp.drop hD1 k6
        rw [xl, List.take_length, bk.due.sum] at ss
        have sne : sub ≠ [] := se (by
          rcases Nat.eq_zero_or_pos xs.length with e | e
          · have e2 : trs = [] := List.eq_nil_of_length_eq_zero (by omega)
            have := bk.due.sum
            rw [e2] at this
            have e3 : 0 = t := this
            omega
          · exact e)
        have al : acc.length = sub.length := by rw [nk6.length, List.length_map]
        have W0 : 0 < (sub.map (·.2)).sum := by
          match sub, sne, sm with
          | x :: r, _, sm =>
            have := bk.due.pos x (sm x (by simp))
            rw [List.map_cons, List.sum_cons]
            omega
        have hq6 := hq5.tk kD.tk
        have hsm : ∀ y ∈ sub, y.2 ≤ (sub.map (·.2)).sum := fun y hy => sum_mem_le hy
        generalize hW : (sub.map (·.2)).sum = W at W0 ss hsm
        refine ⟨_, rfl, D1, rfl, ⟨_, SqL.of h6⟩, fun D2 hD2 => ?_⟩
        refine lc_dataL (K := K) (S := []) (J := J0) (Pd := mapP sub fun x => frD x.2 t) (xs := acc) (SqL.of h6) (by simp) (by simp) hD2 hJ0 trivial mapP.zero (by omega) (fun i x hx => ?_) fun H7 acc2 ds k7 _ h7 nk7 pd2 hdl => ?_
        · intro H7 acc2 ds R N k7 _ h7 nk7 pd2 hdl hR hN'
          obtain ⟨tr, htr, hn⟩ := nkAll_map (pairD t) nk6 hx
          obtain ⟨p, kv, sh, rfl, hp, hk, hsh⟩ := pr_at (hn.tk k7.tk)
          exact ⟨p, _, rfl, hp, rfl, _, _, rfl, _, _, rfl, rfl, rfl, tYes_el ⟨_, rfl, hR _ _ ⟨Kp.refl _, trivial, _, hsh, pd2.step htr⟩⟩⟩
        · obtain rfl := pd2.done (by omega)
          have kD2 : Kp [] H6 H7 := Kp.drop hD2 k7
          have e7 : sub.map (fun x => frD x.2 t) = (sub.map (·.2)).map fun a => frD a t := by rw [List.map_map]; rfl
          rw [e7] at nk7
          refine ⟨D2, acc2, sub.map (·.2), t, rfl, SqL.of h7, nk7, T0, T1, by rw [hW]; omega, fun whole H8 k8 hw => ?_⟩
          rw [hW] at hw
          have kk8 := kD2.trans k8
          have h8 := kk8.st D1 _ (by simp) h6
          have nk8 := NkAll.tk kk8.tk nk6
          refine ⟨_, rfl, D1, rfl, ⟨_, SqL.of h8⟩, fun D3 hD3 => ?_⟩
          refine lc_dataL (K := K) (S := []) (J := J0) (Pd := mapP sub (pairD W)) (xs := acc) (SqL.of h8) (by simp) (by simp) hD3 hJ0 trivial mapP.zero (by omega) (fun i x hx => ?_) fun H9 acc3 ds k9 _ h9 nk9 pd3 hdl => ?_
          · intro H9 acc3 ds R N k9 _ h9 nk9 pd3 hdl hR hN'
            obtain ⟨tr, htr, hn⟩ := nkAll_map (pairD t) nk8 hx
            have hsm := hsm tr (List.mem_of_getElem? htr)
            obtain ⟨p, kv, sh, rfl, hp, hk, hsh⟩ := pr_at (hn.tk k9.tk)
            refine ⟨p, _, rfl, hp, rfl, _, _, rfl, _, _, rfl, rfl, rfl, tYes_el ⟨_, rfl, _, rfl, _, rfl, sh, whole, tr.2, W, t, rfl, hsh, hw.tk k9.tk, T0, T1, by omega, W0, by omega, fun r H10 k10 hr => ⟨(by show 2 ≤ sizeLine; decide), fun z hz => hR _ _ ⟨k10.trans (Kp.new hz), trivial, pairD W tr, Nk.made (.cons (hk.tk k10.tk) (.cons hr .nil)) hz, pd3.step htr⟩⟩⟩⟩
          · obtain rfl := pd3.done (by omega)
            have kD3 : Kp [] H8 H9 := Kp.drop hD3 k9
            refine ⟨D3, acc3, sub, W, rfl, SqL.of h9, nk9, W0, by omega, by rw [hW]; omega, by omega, fun v H10 trs' k10 nk10 fit => ?_⟩
            have kk10 : Kp [] H6 H10 := (kk8.trans kD3).trans k10
            refine hN _ _ ⟨v, trs', W, _, _, _, rfl, d6.same kk10, hq6.tk kk10.tk, nk10, BookOk.fit (fun y hy => ⟨bk.lot y (sm y hy), bk.rw' y (sm y hy)⟩) fit hW W0 (by omega) (by omega) bk.due.qlen⟩
    · rintro σ' H' ⟨due, trs, t, u2, u5, u6, rfl, d, hq, hdue, bk⟩
      have l3 := ok.l3
      have al6 : (allNodes qs).length ≤ 6 := by rw [allNodes_len]; omega
      have hsb := Shw.book ok bk
      have hsz : 9064005 ≤ sizeLine := by rw [sizeLine_eq]; decide
      have hsz2 : 825005 ≤ sizeLine := by rw [sizeLine_eq]; decide
      refine ⟨_, rfl, fun fo dxf hf hdf nf => ⟨fo, dxf, q, rfl, upd_same, fun H1' k1' fa => ⟨rfl, ?_⟩⟩⟩
      have kf := made_kp hf hdf nf k1'
      have nfo := d.free hf
      have d1' := d.same kf
      refine ⟨_, rfl, fun bo dxb hb' hdb nb => ⟨bo, dxb, .ref fo, due, rfl, upd_same, fun H2 k2 ba => ⟨rfl, ?_⟩⟩⟩
      have kb := made_kp hb' hdb nb k2
      have nbo := d1'.free hb'
      have d2 := d1'.same kb
      have fa2 := fa.kp kb (by simp)
      have hq2 := (hq.tk kf.tk).tk kb.tk
      have hdue2 := (hdue.tk kf.tk).tk kb.tk
      obtain ⟨pd, xs, rfl, hpd, hxs⟩ := hdue2.inv_tup
      refine ⟨4, rfl, by decide, by decide, for_range (fun i σ H' => ∃ u8 u9 : Option V, σ = [some (.ref l), some (.ref a), u2, some q, some (.ref pd), u5, u6, some (.ref bo), u8, u9, none, none, none] ∧ Kp [a, b] H2 H' ∧ Deal H' a b)
        ⟨_, _, rfl, Kp.refl _, d2⟩ ?_ ?_⟩
      · rintro j σ H' hj ⟨u8, u9, rfl, kp, d⟩
        have hq3 := hq2.tk kp.tk
        have hdue3 := hdue2.tk kp.tk
        refine ⟨_, rfl, q, qs, rfl, hq3, ok, fun f0 ys H3 hf0 k3 hf3 nk3 => ?_⟩
        have d3 := d.same k3
        have ysl : ys.length = (allNodes qs).length := by rw [nk3.length, List.length_map]
        have nf0 := d.free hf0
        refine ⟨f0, rfl, ⟨_, SqL.of hf3⟩, fun D1 hD1 => ?_⟩
        have nD1 := d3.free hD1
        refine lc_dataL (K := K) (S := [a, b]) (J := fun H' => Deal H' a b) (Pd := nodesP qs) (xs := ys) (SqL.of hf3) nf0 nD1 hD1 (fun H H' kk j => j.kpD nD1 kk) d3 ⟨[], rfl, by simp, Nat.le_refl _⟩ (by omega) (fun i x hx => ?_) fun H4 acc ds k4 d4 h4 nk4 pd' hdl => ?_
        · intro H4 acc ds R N k4 d4 h4 nk4 pd' hdl hR hN'
          obtain ⟨n, hn, hnn⟩ := nkAll_map nodeD nk3 hx
          refine ⟨rfl, _, rfl, a, b, 2, rfl, d4, by decide, by decide, fun z H5 z0 z1 k5 d5 => ⟨rfl, _, rfl, ite2 (fun _ => ?_) fun _ => hN' _ k5 d5 pd'.skip⟩⟩
          exact ⟨_, rfl, hR _ _ ⟨k5, d5, nodeD n, (hnn.tk k4.tk).tk k5.tk, pd'.keep (List.mem_of_getElem? hn)⟩⟩
        · obtain ⟨ns', rfl, nm, nl⟩ := pd'
          have kD : Kp [a, b] H3 H4 := Kp.drop hD1 k4
          have nok : NodesOk qs ns' := ⟨fun n hn => nodes_mem n (nm n hn), by omega⟩
          have hsm := Shw.marg (ns := ns') bk (by omega)
          refine ⟨D1, acc, rfl, .inl ⟨SqL.of h4, fun p hp => ?_⟩⟩
          have kp5 := Kp.new (S := [a, b]) hp (o := .tup acc)
          have hnd := Nk.made nk4 hp
          have d5 := d4.newD hp (o := .tup acc)
          have kk5 : Kp [a, b] H2 (L2.upd H4 p (.tup acc)) := ((kp.trans k3.nil).trans kD).trans kp5
          refine ⟨_, rfl, _, rfl, bo, fo, .ref p, q, .ref pd, qs, ns', trs, t, rfl, ba.kp kk5 nbo, fa2.kp kk5 nfo, hq2.tk kk5.tk, hnd, hdue2.tk kk5.tk, bk.due, nok, fun v H6 k6 nk6 => ?_⟩
          obtain ⟨pa, _, rfl, _, _⟩ := Nk.inv_tup (show Nk K H6 v (.tup _) from nk6)
          refine ⟨pa, _, rfl, nk6, hsm.ok, Nat.le_trans hsm.len hsz2, marD_depth _ _ _ _, ?_⟩
          have kk6 := kk5.trans k6.nil
          refine ⟨_, rfl, _, rfl, _, rfl, q, .ref pd, .ref p, qs, ns', trs, t, rfl, hq2.tk kk6.tk, hnd.tk k6.tk, hdue2.tk kk6.tk, bk.due, nok, fun v2 H7 k7 nk7 => ?_⟩
          obtain ⟨pa2, _, rfl, _, _⟩ := Nk.inv_tup (show Nk K H7 v2 (.tup _) from nk7)
          refine ⟨pa2, _, rfl, nk7, hsm.ok, Nat.le_trans hsm.len hsz2, marD_depth _ _ _ _, ?_⟩
          exact ⟨rfl, _, rfl, iteBF (ne_self _) ⟨_, _, rfl, kk6.trans k7.nil, (d5.same k6).same k7⟩⟩
      · rintro σ H' ⟨u8, u9, rfl, kp, d⟩
        have nok : NodesOk qs [] := ⟨by simp, by simp⟩
        have hsm := Shw.marg (ns := []) bk (by decide)
        have hmd := marD_depth qs [] trs t
        rw [marD_nil bk.due] at hsm hmd
        refine ⟨_, rfl, (by show 0 ≤ sizeLine; decide), fun z hz => ?_⟩
        have kz := Kp.new (S := [a, b]) hz (o := .tup [])
        have kk := kp.trans kz
        refine ⟨bo, fo, .ref z, q, .ref pd, qs, [], trs, t, rfl, ba.kp kk nbo, fa2.kp kk nfo, hq2.tk kk.tk, Nk.made .nil hz, hdue2.tk kk.tk, bk.due, nok, fun v H3 k3 nk3 => ?_⟩
        rw [marD_nil bk.due] at nk3
        obtain ⟨pa, _, rfl, _, _⟩ := nk3.inv_tup
        refine ⟨pa, _, rfl, nk3, hsm.ok, Nat.le_trans hsm.len hsz2, hmd, ?_⟩
        have kk3 := kk.trans k3.nil
        have d3 := (d.newD hz (o := .tup [])).same k3
        refine ⟨(by show 0 ≤ sizeLine; decide), fun z1 hz1 => ⟨(by show 2 ≤ sizeLine; decide), fun z2 hz2 => ⟨(by show 2 ≤ sizeLine; decide), fun z3 hz3 => ⟨(by show 1 ≤ sizeLine; decide), fun z4 hz4 => ?_⟩⟩⟩⟩
        have n1 : Nk K _ (.ref z1) (.tup []) := Nk.made .nil hz1
        have n2 := nk_pair (K := K) (i := 1) (j := 1) hz2
        have n3 := Nk.made (.cons (n1.tk (Kp.new (S := []) hz2).tk) (.cons n2 .nil)) hz3
        have n4 := Nk.made (.cons n3 .nil) hz4
        have ka := ((Kp.new (S := []) hz1 (o := .tup [])).trans (Kp.new (S := []) hz2 (o := .tup [.int 1, .int 1]))).trans ((Kp.new (S := []) hz3 (o := .tup [.ref z1, .ref z2])).trans (Kp.new (S := []) hz4 (o := .tup [.ref z3])))
        refine ⟨z4, _, rfl, n4, hsm.ok, Nat.le_trans hsm.len hsz2, hmd, rfl, _, rfl, iteBF (ne_self _) ?_⟩
        have kk4 := kk3.trans ka.nil
        obtain ⟨dx, fs, b1, b2, b3⟩ := ba.kp kk4 nbo
        have hdue4 := hdue2.tk kk4.tk
        refine ⟨_, rfl, bo, CB, dx, fs, _, rfl, b1, M.cl.clB, M.cl.nS, b3, pd, _, rfl, hdue4, hsb.ok, Nat.le_trans hsb.len hsz, book_depth _ _, ?_⟩
        refine ⟨_, rfl, pd, _, rfl, hdue4, hsb.ok, Nat.le_trans hsb.len hsz, book_depth _ _, rfl, _, rfl, iteBF (ne_self _) ?_⟩
        exact ⟨_, _, _, _, _, _, _, _, rfl, d3.same ka⟩
  · rintro σ H' ⟨u2, u3, u4, u5, u6, u7, u8, u9, rfl, d⟩
    exact k _
end
end Wb

namespace Wb
open PySem L2 PySem.Spec PyProof.Rows

/-! ### the law's def, called by the caller alone: there no repr is under way -/
section
variable {P : Program} {w : World} {K : PySem.W.Frag} {mg : Str → Option Value} {base : Heap}
theorem run_at {x qual : Str} {st : Stmt} {f : Addr} {fd : FuncData} {N ps : List Str} {k : Nat} (F : Fun K x qual st f fd) (S : FnScope N ps (defScope st)) {A : Around} {outer : List Env} {s : Shared} {H : Hp} {args : Args} {us : List Value} {vs : List V} {Q : VK} {E : XK}
    (hr : Room (k + 1) A) (e0 : Env0 P w K mg base A outer s H) (hb : BindsTo s fd args (ps.zip us)) (r : Vals vs us) (hl : vs.length = ps.length)
    (body : ∀ cdv : Value, Room k (A.deeper (envOfC qual (defScope st) s.heap.objs.size f cdv)) → ∃ t, PSs (cxOf CX0 P w K mg base N qual (defScope st) f cdv A outer s H E).nox (defBody st) t ∧ t { nx := fun _ H' => Q .non H', rt := Q } (start N vs) H) :
    codeAny (model P w) A (.call (.ref f) args) (CR CX0 outer P w H s Q E) s := by
  obtain ⟨oc, od, kV, doc, pm, an, cdv, ct, osl, rfl, lk, hcd⟩ := F.ex
  have inK : K.In s.heap := e0.mod.kin.keeps fun b o e => (e0.bs b o e).1
  have noL : s.heap.NoLimit := e0.mod.nolimit.keeps fun b o e => (e0.bs b o e).1
  refine codeAny_call_function hr.depth (inK _ _ lk) rfl S.co S.gen rfl (PySem.W.codeRec_of inK hcd) (hb _ _ _ _ ?_)
  refine wpAny_newFunctionEnv_cells S.kind (fun y hy => ?_) fun env he s1 ent => ?_
  · obtain ⟨n, v⟩ := y
    rcases S.par n (List.of_mem_zip hy).1 with q | q
    · exact .inl q
    · exact .inr ⟨q, PySem.W.cellsFrom_some _ _ _ (.inl q)⟩
  · subst he
    refine ⟨noL.keeps ent.toInCall.keep, codeAny_func ?_⟩
    obtain ⟨t, ht, run⟩ := body cdv (hr.deeper _)
    refine wpAny_mono (ht.nox.run [] s1 (start N vs) H _ (inv_start S hr.hd e0 hl r ent) run) (fun fl s' end_ => ?_) fun e s' z => z
    have back : ∀ {σ' : L2.St} {H' : Hp} {v : V} {u : Value}, Inv (cxOf CX0 P w K mg base N qual (defScope st) f cdv A outer s H E) [] σ' H' s' → RelV v u → Q v H' → CE outer P w H s Q u s' :=
      fun J rv q => ⟨_, _, J.os, J.bare, J.base, J.hok, rv, q⟩
    cases fl with
    | ret u => obtain ⟨v, σ', H', J, rv, q⟩ := end_; exact back J rv q
    | next => obtain ⟨σ', H', J, q⟩ := end_; exact back (v := V.non) (u := Value.none) J rfl q
    | brk => obtain ⟨_, _, _, q⟩ := end_; exact q.elim
    | cont => obtain ⟨_, _, _, q⟩ := end_; exact q.elim
/-- the abstract heap of the start: of all objects only the script's list may be looked at -/
def scH (K : PySem.W.Frag) (a : Addr) (o : Obj) (xs : List V) : Hp := fun b => if b = a ∧ K.lookup a = none then some (.frz o (.lst xs)) else none
theorem scH_some {a : Addr} {o : Obj} {xs : List V} {b : Addr} {u : HO} (h : scH K a o xs b = some u) : b = a ∧ K.lookup a = none ∧ u = .frz o (.lst xs) := by
  unfold scH at h
  split at h
  · rename_i c
    exact ⟨c.1, c.2, (Option.some.inj h).symm⟩
  · cases h
theorem law_at {mb : Str → Option Value} {fa a : Addr} {s₁ : Shared} {vs : List Value} {ns : List Int}
    (inK : K.In s₁.heap) (hns : s₁.heap.Ns mainGlobals mg) (hb : s₁.heap.Ns builtinsNs mb) (hbb : ∀ x : Str, x ≠ "__name__" → mb x = bootBuiltins x) (noL : s₁.heap.NoLimit) (hg : s₁.gens = #[])
    (ha : s₁.heap.get? a = some { cls := .type "list", data := .seq vs.toArray }) (hi : IntsAre vs ns) (hl : ns.length ≤ sizeLine)
    (run : ∀ (base : Heap) (H : Hp), K.In base → base.Ns mainGlobals mg → SqL K H a (ns.map V.int) → Env0 P w K mg base callerA [] s₁ H → codeAny (model P w) callerA (.call (.ref fa) ⟨[.ref a], []⟩) (CR CX0 [] P w H s₁ (fun v _ => v = .bl true) E0) s₁) :
    codeAny (model P w) callerA (.call (.ref fa) ⟨[.ref a], []⟩) (fun r s' => r = .ok (.ret (.bool true)) ∧ OldK s₁.heap s'.heap ∧ s'.os = s₁.os ∧ AllBare s'.gens) s₁ := by
  have rv := vals_ints hi
  have hlen : vs.length ≤ sizeLine := by rw [hi.length]; exact hl
  obtain ⟨H, hH⟩ : ∃ H, H = scH K a { cls := .type "list", data := .seq vs.toArray } (ns.map V.int) := ⟨_, rfl⟩
  have some_ : ∀ {b : Addr} {u : HO}, H b = some u → b = a ∧ K.lookup a = none ∧ u = .frz { cls := .type "list", data := .seq vs.toArray } (.lst (ns.map V.int)) := fun {b u} h => scH_some (by rw [← hH]; exact h)
  have src : SqL K H a (ns.map V.int) := by
    cases hk : K.lookup a with
    | none => exact .inl (.inr ⟨_, by rw [hH]; exact if_pos ⟨rfl, hk⟩⟩)
    | some o =>
      have e := inK a o hk
      rw [ha] at e
      cases e
      exact .inr ⟨_, vs.toArray, _, hk, rfl, rfl, rfl, by rw [List.size_toArray]; exact hlen, by simpa using rv⟩
  have hok : HOk P w H s₁.heap := fun b u e => by
    obtain ⟨rfl, _, rfl⟩ := some_ e
    exact ⟨ha, by rw [List.length_map]; exact hl, vs, _, rv, ha⟩
  -- what is not looked at stands in the base
  have inBase : ∀ {b : Addr} {o : Obj}, s₁.heap.get? b = some o → b ≠ a ∨ (∃ u, K.lookup a = some u) → (hidT s₁.heap H).get? b = some o := fun {b o} e n => hidT_get e (by
    cases q : H b with
    | none => rfl
    | some u =>
      obtain ⟨e1, e2, _⟩ := some_ q
      rcases n with n | ⟨u, n⟩
      · exact absurd e1 n
      · rw [n] at e2; cases e2)
  have nsB : ∀ {b : Addr} {m : Str → Option Value}, s₁.heap.Ns b m → (hidT s₁.heap H).Ns b m := fun {b m} ⟨o, es, ep, e, d, rest⟩ => ⟨o, es, ep, inBase e (.inl fun q => by
    subst q
    rw [ha] at e
    cases e
    exact nomatch (show Data.seq vs.toArray _ = Data.dict es ep from d)), d, rest⟩
  have inB : K.In (hidT s₁.heap H) := fun b o e => inBase (inK b o e) (by
    by_cases q : b = a
    · subst q; exact .inr ⟨o, e⟩
    · exact .inl q)
  have md : Mod K mg (hidT s₁.heap H) := ⟨inB, nsB hns, ⟨mb, nsB hb, hbb⟩, let ⟨mc, h1, h2⟩ := noL; ⟨mc, nsB h1, h2⟩⟩
  have env : Env0 P w K mg (hidT s₁.heap H) callerA [] s₁ H := ⟨rfl, md, fun b o e => of_hidT e, Nat.le_of_eq (hidT_size _ _), trivial, fun b h => absurd (show b ∈ ([] : List Addr) from h) (by simp), hok, .of_eq hg⟩
  refine codeAny_mono (run _ H inB (nsB hns) src env) fun r s' h => ?_
  match r, h with
  | .ok (.ret u), h =>
    obtain ⟨v, H', os, bare, un, hok', rel, q⟩ := h
    obtain rfl : v = .bl true := q
    obtain rfl : u = Value.bool true := rel
    refine ⟨rfl, OldK.of_keep fun b o e => ?_, os, bare⟩
    cases q : H b with
    | none => exact un.keep b o e q (fun z => absurd (show b ∈ ([] : List Addr) from z) (by simp)) (by simp)
    | some u =>
      obtain ⟨rfl, _, rfl⟩ := some_ q
      have e1 := (hok b _ q).1
      have e2 := (hok' b _ (un.frzs b _ _ q)).1
      rw [e] at e1
      cases e1
      exact e2
end
end Wb

namespace Wb
open PySem L2 PySem.Spec PyProof.Rows

/-! ### what the top has written -/
/-- a def of the text, by its name -/
def FnD (K : PySem.W.Frag) (x : Str) (st : Stmt) : Prop := ∃ f fd, Fun K x x st f fd ∧ PySem.W.nsIn K mainGlobals x = some (some (.ref f))
theorem fnd {K : PySem.W.Frag} {x : Str} {st : Stmt} {f : Addr} {oc : Value} {od an : Option Addr} {osl : Array (Option Value)} {kV doc pm cdv ct : Value} (a : PySem.W.nsIn K mainGlobals x = some (some (.ref f)))
    (l : K.lookup f = some ⟨oc, od, .func (PySem.W.fnOf x x (defArgs st) (defBody st) (defScope st) .none kV doc pm an cdv ct), osl⟩) (c : PySem.W.codeIn K cdv x = true) (k : PySem.W.keepIn K (.ref f) = true) : FnD K x st := ⟨f, _, fun_mk l c k, a⟩
theorem FnD.df {K : PySem.W.Frag} {x : Str} {st : Stmt} {ps : List Str} {h : Heap} {mg : Str → Option Value} (d : FnD K x st) (X : K.In h) (G : h.Ns mainGlobals mg) (b : ∀ f fd, Fun K x x st f fd → Binds K fd ps []) : Df K mg x st ps := by
  obtain ⟨f, fd, F, a⟩ := d
  exact ⟨f, fd, F, b f fd F, PySem.W.mg_of X G a⟩
/-- a class of the text, by its name and its __init__ -/
def ClD (K : PySem.W.Frag) (x q : Str) (st : Stmt) (C : Addr) : Prop := ∃ f fd, Fun K "__init__" q st f fd ∧ Mk K C f ∧ Cls K C ∧ PySem.W.nsIn K mainGlobals x = some (some (.ref C))
theorem cld {K : PySem.W.Frag} {x q : Str} {st : Stmt} {C f : Addr} {oc : Value} {od an : Option Addr} {osl : Array (Option Value)} {kV doc pm cdv ct : Value} (a : PySem.W.nsIn K mainGlobals x = some (some (.ref C)))
    (fi : PySem.W.findIn K (.ref C) "__init__" = some (some (.ref f))) (l : K.lookup f = some ⟨oc, od, .func (PySem.W.fnOf "__init__" q (defArgs st) (defBody st) (defScope st) .none kV doc pm an cdv ct), osl⟩) (c : PySem.W.codeIn K cdv q = true) (k : PySem.W.keepIn K (.ref f) = true)
    (i : PySem.W.isFn K (.ref f) = true) (mk : PySem.W.makesIn K C = true) (kc : PySem.W.keepIn K (.ref C) = true)
    (pg : PySem.W.plainGet K C Str.empty = true) (hd : PySem.W.hasDictIn K C = true) (po : PySem.W.plainOver K C = true) (sa : PySem.W.findIn K (.ref C) "__setattr__" = some (some (.builtin "object.__setattr__"))) : ClD K x q st C :=
  ⟨f, _, fun_mk l c k, ⟨mk, fi, i, kc⟩, ⟨pg, hd, po, sa⟩, a⟩
theorem zr_mk {K : PySem.W.Frag} {h : Heap} {mg : Str → Option Value} {z : Addr} {od : Option Addr} {t0 t1 : Tok} {n : Nat} {osl : Array (Option Value)} (X : K.In h) (G : h.Ns mainGlobals mg) (a : PySem.W.nsIn K mainGlobals "ZERO" = some (some (.ref z)))
    (l : K.lookup z = some ⟨.type "tuple", od, .seq #[.int 0 t0, .int 1 t1] n, osl⟩) : Zr K mg :=
  ⟨z, PySem.W.mg_of X G a, fun H => .tup (xs := [.int 0, .int 1]) (.inr ⟨_, #[.int 0 t0, .int 1 t1], n, l, rfl, rfl, by show 2 ≤ sizeLine; decide, .cons ⟨t0, rfl⟩ (.cons ⟨t1, rfl⟩ .nil)⟩) (.cons (.num 0) (.cons (.num 1) .nil))⟩
/-- all that the head must give -/
structure Head (K : PySem.W.Frag) (CF CB : Addr) : Prop where
  law : FnD K "law" sLaw
  form : ClD K "Form" "Form.__init__" sFormInit CF
  book : ClD K "Book" "Book.__init__" sBookInit CB
  nQ : PySem.W.findIn K (.ref CF) "questions" = some none
  nF : PySem.W.findIn K (.ref CB) "form" = some none
  nS : PySem.W.findIn K (.ref CB) "shares" = some none
  gcd : PySem.W.nsIn K mainGlobals "gcd" = some (some (.builtin "math.gcd"))
  b_int : PySem.W.nsIn K mainGlobals "int" = some none
  b_abs : PySem.W.nsIn K mainGlobals "abs" = some none
  b_len : PySem.W.nsIn K mainGlobals "len" = some none
  b_list : PySem.W.nsIn K mainGlobals "list" = some none
  b_sorted : PySem.W.nsIn K mainGlobals "sorted" = some none
  b_range : PySem.W.nsIn K mainGlobals "range" = some none
  b_tuple : PySem.W.nsIn K mainGlobals "tuple" = some none
  b_sum : PySem.W.nsIn K mainGlobals "sum" = some none
  b_enumerate : PySem.W.nsIn K mainGlobals "enumerate" = some none
  b_repr : PySem.W.nsIn K mainGlobals "repr" = some none
  d_place_of : FnD K "place_of" sPlaceOf
  d_fraction : FnD K "fraction" sFraction
  d_plus : FnD K "plus" sPlus
  d_value_in : FnD K "value_in" sValueIn
  d_margin : FnD K "margin" sMargin
  d_law_deal : FnD K "_law_deal" sDeal
  d_law_any : FnD K "_law_any" sAny
  d_law_of : FnD K "_law_of" sOf
  d_law_names : FnD K "_law_names" sNames
  d_law_questions : FnD K "_law_questions" sQuestions
  d_law_common : FnD K "_law_common" sCommon
  d_law_low : FnD K "_law_low" sLow
  d_law_plus : FnD K "_law_plus" sPlusL
  d_law_over : FnD K "_law_over" sOver
  d_law_sum : FnD K "_law_sum" sSum
  d_law_rows : FnD K "_law_rows" sRows
  d_law_truths : FnD K "_law_truths" sTruths
  d_law_within : FnD K "_law_within" sWithin
  d_law_lots : FnD K "_law_lots" sLots
  d_law_gathered : FnD K "_law_gathered" sGathered
  d_law_triples : FnD K "_law_triples" sTriples
  d_law_nodes : FnD K "_law_nodes" sNodes
  d_law_shares : FnD K "_law_shares" sShares
  d_law_value : FnD K "_law_value" sValue
  d_law_values : FnD K "_law_values" sValues
  d_law_margin : FnD K "_law_margin" sMarginL
  d_law_drawn : FnD K "_law_drawn" sDrawn
theorem Head.mine {K : PySem.W.Frag} {CF CB : Addr} {h : Heap} {mg : Str → Option Value} (E : Head K CF CB) (Z : Zr K mg) (X : K.In h) (G : h.Ns mainGlobals mg) (P : Program) (w : World) (base : Heap) : Mine P w K mg base CF CB := by
  have T : Txt mg := ⟨PySem.W.mg_none_of X G E.b_int, PySem.W.mg_none_of X G E.b_abs, PySem.W.mg_none_of X G E.b_len, PySem.W.mg_none_of X G E.b_list, PySem.W.mg_none_of X G E.b_sorted, PySem.W.mg_none_of X G E.b_range, PySem.W.mg_none_of X G E.b_tuple, PySem.W.mg_none_of X G E.b_sum, PySem.W.mg_none_of X G E.b_enumerate, PySem.W.mg_none_of X G E.b_repr, PySem.W.mg_of X G E.gcd⟩
  obtain ⟨fF, fdF, FF, MF, cF, aF⟩ := E.form
  obtain ⟨fB, fdB, FB, MB, cB, aB⟩ := E.book
  have c : Cl K CF CB := ⟨cF, E.nQ, cB, E.nF, E.nS⟩
  have d_place_of : Df K mg "place_of" sPlaceOf pPlaceOf := E.d_place_of.df X G fun _ _ F => F.binds fun _ _ _ _ _ _ us hl => match us, hl with | [_, _], _ => rfl
  have d_fraction : Df K mg "fraction" sFraction pFraction := E.d_fraction.df X G fun _ _ F => F.binds fun _ _ _ _ _ _ us hl => match us, hl with | [_, _], _ => rfl
  have d_plus : Df K mg "plus" sPlus pPlus := E.d_plus.df X G fun _ _ F => F.binds fun _ _ _ _ _ _ us hl => match us, hl with | [_, _], _ => rfl
  have d_value_in : Df K mg "value_in" sValueIn pValueIn := E.d_value_in.df X G fun _ _ F => F.binds fun _ _ _ _ _ _ us hl => match us, hl with | [_, _, _, _], _ => rfl
  have d_margin : Df K mg "margin" sMargin pMargin := E.d_margin.df X G fun _ _ F => F.binds fun _ _ _ _ _ _ us hl => match us, hl with | [_, _], _ => rfl
  have d_law_deal : Df K mg "_law_deal" sDeal ["_law_script", "_law_base"] := E.d_law_deal.df X G fun _ _ F => F.binds fun _ _ _ _ _ _ us hl => match us, hl with | [_, _], _ => rfl
  have d_law_any : Df K mg "_law_any" sAny pAny := E.d_law_any.df X G fun _ _ F => F.binds fun _ _ _ _ _ _ us hl => match us, hl with | [_, _], _ => rfl
  have d_law_of : Df K mg "_law_of" sOf pOf := E.d_law_of.df X G fun _ _ F => F.binds fun _ _ _ _ _ _ us hl => match us, hl with | [_, _], _ => rfl
  have d_law_names : Df K mg "_law_names" sNames pNames := E.d_law_names.df X G fun _ _ F => F.binds fun _ _ _ _ _ _ us hl => match us, hl with | [_, _], _ => rfl
  have d_law_questions : Df K mg "_law_questions" sQuestions pQuestions := E.d_law_questions.df X G fun _ _ F => F.binds fun _ _ _ _ _ _ us hl => match us, hl with | [_, _], _ => rfl
  have d_law_common : Df K mg "_law_common" sCommon nCommon := E.d_law_common.df X G fun _ _ F => F.binds fun _ _ _ _ _ _ us hl => match us, hl with | [_, _], _ => rfl
  have d_law_low : Df K mg "_law_low" sLow pLow := E.d_law_low.df X G fun _ _ F => F.binds fun _ _ _ _ _ _ us hl => match us, hl with | [_, _], _ => rfl
  have d_law_plus : Df K mg "_law_plus" sPlusL pPlusL := E.d_law_plus.df X G fun _ _ F => F.binds fun _ _ _ _ _ _ us hl => match us, hl with | [_, _], _ => rfl
  have d_law_over : Df K mg "_law_over" sOver pPlusL := E.d_law_over.df X G fun _ _ F => F.binds fun _ _ _ _ _ _ us hl => match us, hl with | [_, _], _ => rfl
  have d_law_sum : Df K mg "_law_sum" sSum pSum := E.d_law_sum.df X G fun _ _ F => F.binds fun _ _ _ _ _ _ us hl => match us, hl with | [_], _ => rfl
  have d_law_rows : Df K mg "_law_rows" sRows pRows := E.d_law_rows.df X G fun _ _ F => F.binds fun _ _ _ _ _ _ us hl => match us, hl with | [_], _ => rfl
  have d_law_truths : Df K mg "_law_truths" sTruths pQ := E.d_law_truths.df X G fun _ _ F => F.binds fun _ _ _ _ _ _ us hl => match us, hl with | [_], _ => rfl
  have d_law_within : Df K mg "_law_within" sWithin pWithin := E.d_law_within.df X G fun _ _ F => F.binds fun _ _ _ _ _ _ us hl => match us, hl with | [_], _ => rfl
  have d_law_lots : Df K mg "_law_lots" sLots pQ := E.d_law_lots.df X G fun _ _ F => F.binds fun _ _ _ _ _ _ us hl => match us, hl with | [_], _ => rfl
  have d_law_gathered : Df K mg "_law_gathered" sGathered pGathered := E.d_law_gathered.df X G fun _ _ F => F.binds fun _ _ _ _ _ _ us hl => match us, hl with | [_], _ => rfl
  have d_law_triples : Df K mg "_law_triples" sTriples pTriples := E.d_law_triples.df X G fun _ _ F => F.binds fun _ _ _ _ _ _ us hl => match us, hl with | [_], _ => rfl
  have d_law_nodes : Df K mg "_law_nodes" sNodes pQ := E.d_law_nodes.df X G fun _ _ F => F.binds fun _ _ _ _ _ _ us hl => match us, hl with | [_], _ => rfl
  have d_law_shares : Df K mg "_law_shares" sShares pShares := E.d_law_shares.df X G fun _ _ F => F.binds fun _ _ _ _ _ _ us hl => match us, hl with | [_, _, _], _ => rfl
  have d_law_value : Df K mg "_law_value" sValue pValue := E.d_law_value.df X G fun _ _ F => F.binds fun _ _ _ _ _ _ us hl => match us, hl with | [_, _, _, _], _ => rfl
  have d_law_values : Df K mg "_law_values" sValues pValues := E.d_law_values.df X G fun _ _ F => F.binds fun _ _ _ _ _ _ us hl => match us, hl with | [_, _, _, _], _ => rfl
  have d_law_margin : Df K mg "_law_margin" sMarginL pMarginL := E.d_law_margin.df X G fun _ _ F => F.binds fun _ _ _ _ _ _ us hl => match us, hl with | [_, _, _], _ => rfl
  have d_law_drawn : Df K mg "_law_drawn" sDrawn pDrawn := E.d_law_drawn.df X G fun _ _ F => F.binds fun _ _ _ _ _ _ us hl => match us, hl with | [_, _, _], _ => rfl
  have any := ok_any (P := P) (w := w) (base := base) d_law_any T
  have of_ := ok_of d_law_of T any
  have names := ok_names d_law_names T any of_
  have questions := ok_questions d_law_questions T any names
  have common := ok_common (P := P) (w := w) (base := base) d_law_common T
  have low := ok_low d_law_low T common
  have plusL := ok_plusL d_law_plus low
  have over := ok_over d_law_over low
  have sum := ok_sum d_law_sum plusL
  have rows := ok_rows (P := P) (w := w) (base := base) d_law_rows T
  have truths := ok_truths d_law_truths T rows
  have within := ok_within (P := P) (w := w) (base := base) d_law_within T
  have lots := ok_lots d_law_lots T within
  have gathered := ok_gathered d_law_gathered T plusL
  have triples := ok_triples d_law_triples T gathered
  have nodes := ok_nodes (P := P) (w := w) (base := base) d_law_nodes
  have shares := ok_shares d_law_shares T any low
  have value := ok_value (P := P) (w := w) (base := base) d_law_value
  have values := ok_values d_law_values T value
  have marginL := ok_marginL d_law_margin T values gathered
  have drawn := ok_drawn d_law_drawn T lots truths shares triples
  have fraction := ok_fraction (P := P) (w := w) (base := base) d_fraction T
  have plus := ok_plus d_plus fraction
  have placeOf := ok_placeOf (P := P) (w := w) (base := base) d_place_of T c
  have valueIn := ok_valueIn d_value_in placeOf
  have margin := ok_margin d_margin T c Z valueIn plus
  exact ⟨T, c, ok_deal d_law_deal T, any, questions, drawn, sum, over, triples, nodes, margin, marginL,
    ⟨fF, fdF, MF, ok_formInit FF c, FF.binds fun _ _ _ _ _ _ us hl => match us, hl with | [_, _], _ => rfl, PySem.W.mg_of X G aF⟩,
    ⟨fB, fdB, MB, ok_bookInit FB c, FB.binds fun _ _ _ _ _ _ us hl => match us, hl with | [_, _, _], _ => rfl, PySem.W.mg_of X G aB⟩⟩
theorem walk {l : PySem.W.OpenLaw} {q : Program} {loose : List Str} {XP : (Str → Option Value) → Heap → Prop} {YP : World → Heap → Prop} {d : DefRec} {K : Params → PySem.W.Frag} (hn : l.most = some 63) (hdf : d.params.defaults = []) (hname : d.name = "law")
    (hY : ∀ (w : World) (h : Heap), YP w h → (K w.params).In h)
    (E : ∀ (w : World) (mg : Str → Option Value) (h : Heap), (K w.params).In h → h.Ns mainGlobals mg → ∃ CF CB, Head (K w.params) CF CB ∧ Zr (K w.params) mg) :
    PySem.W.WalkO q loose XP YP l.row.toRowW d [] (fun f vs => PySem.call f vs) := by
  refine Att.attach_call hn hdf fun w s₀ s₁ mg mb fa o pm cd doc a vs ns G Y ho hd hcd hmg hobj hints hlen hg => ?_
  have X := hY w _ Y
  obtain ⟨CF, CB, E, Z⟩ := E w mg _ X G.T.g
  obtain ⟨f, fd, F, af⟩ := E.law
  rw [hname] at hmg
  have e := hmg.symm.trans (PySem.W.mg_of X G.T.g af)
  cases e
  refine law_at X G.T.g G.T.b G.T.builtins G.T.nolimit hg hobj hints (Nat.le_trans hlen (by decide)) fun base H inB nsB src env => ?_
  have M := E.mine Z X G.T.g l.prog w base
  have room : Room 7 callerA := ⟨rfl, by decide, by decide⟩
  have bind : BindsTo s₁ fd ⟨[.ref a], []⟩ (pLaw.zip [.ref a]) := by
    obtain ⟨oc, od, kV, doc, pm, an, cdv, ct, osl, rfl, lk, hcd⟩ := F.ex
    exact .of_eq rfl
  exact run_at (vs := [.ref a]) (us := [.ref a]) (Q := fun v _ => v = .bl true) (E := E0) F scLaw room env bind (.cons rfl .nil) rfl fun cdv hr => law_body (Q := fun v _ => v = .bl true) (E := E0) M hr rfl src hlen fun _ => rfl
end Wb

open PySem PySem.W PyProof.Rows in
set_option maxRecDepth 100000 in
set_option maxHeartbeats 0 in
theorem PySem.Challenge.cw_whyblank_k25_whole_sums_over_books_holds : PySem.Challenge.rw_whyblank_k25_whole_sums_over_books.Holds := by
  w_on; o_law; k_head; (case hw => w_witness2)
  k_fill
  refine Wb.walk (l := PySem.Challenge.rw_whyblank_k25_whole_sums_over_books) rfl rfl rfl (fun w h Y => PySem.W.kIn_of Y) ?E
  case E =>
    intro w mg h KX G
    refine' ⟨?CF, ?CB, ⟨?law, ?form, ?book, ?nQ, ?nF, ?nS, ?gcd, ?b_int, ?b_abs, ?b_len, ?b_list, ?b_sorted, ?b_range, ?b_tuple, ?b_sum, ?b_enumerate, ?b_repr, ?d_place_of, ?d_fraction, ?d_plus, ?d_value_in, ?d_margin, ?d_law_deal, ?d_law_any, ?d_law_of, ?d_law_names, ?d_law_questions, ?d_law_common, ?d_law_low, ?d_law_plus, ?d_law_over, ?d_law_sum, ?d_law_rows, ?d_law_truths, ?d_law_within, ?d_law_lots, ?d_law_gathered, ?d_law_triples, ?d_law_nodes, ?d_law_shares, ?d_law_value, ?d_law_values, ?d_law_margin, ?d_law_drawn⟩, Wb.zr_mk KX G ?za ?zl⟩
    (case form => (refine' Wb.cld ?a ?fi ?l ?c ?k ?i ?mk ?kc ?pg ?hd ?po ?sa; (case a => k_is); (case fi => k_is); (case l => k_is); (case c => k_is); (case k => k_is); (case i => k_is); (case mk => k_is); (case kc => k_is); (case pg => k_is); (case hd => k_is); (case po => k_is); (case sa => k_is)))
    (case book => (refine' Wb.cld ?a ?fi ?l ?c ?k ?i ?mk ?kc ?pg ?hd ?po ?sa; (case a => k_is); (case fi => k_is); (case l => k_is); (case c => k_is); (case k => k_is); (case i => k_is); (case mk => k_is); (case kc => k_is); (case pg => k_is); (case hd => k_is); (case po => k_is); (case sa => k_is)))
    (case za => k_is)
    (case zl => k_is)
    (case law => (refine' Wb.fnd ?a ?l ?c ?k; (case a => k_is); (case l => k_is); (case c => k_is); (case k => k_is)))
    (case nQ => k_is)
    (case nF => k_is)
    (case nS => k_is)
    (case gcd => k_is)
    (case b_int => k_is)
    (case b_abs => k_is)
    (case b_len => k_is)
    (case b_list => k_is)
    (case b_sorted => k_is)
    (case b_range => k_is)
    (case b_tuple => k_is)
    (case b_sum => k_is)
    (case b_enumerate => k_is)
    (case b_repr => k_is)
    (case d_place_of => (refine' Wb.fnd ?a ?l ?c ?k; (case a => k_is); (case l => k_is); (case c => k_is); (case k => k_is)))
    (case d_fraction => (refine' Wb.fnd ?a ?l ?c ?k; (case a => k_is); (case l => k_is); (case c => k_is); (case k => k_is)))
    (case d_plus => (refine' Wb.fnd ?a ?l ?c ?k; (case a => k_is); (case l => k_is); (case c => k_is); (case k => k_is)))
    (case d_value_in => (refine' Wb.fnd ?a ?l ?c ?k; (case a => k_is); (case l => k_is); (case c => k_is); (case k => k_is)))
    (case d_margin => (refine' Wb.fnd ?a ?l ?c ?k; (case a => k_is); (case l => k_is); (case c => k_is); (case k => k_is)))
    (case d_law_deal => (refine' Wb.fnd ?a ?l ?c ?k; (case a => k_is); (case l => k_is); (case c => k_is); (case k => k_is)))
    (case d_law_any => (refine' Wb.fnd ?a ?l ?c ?k; (case a => k_is); (case l => k_is); (case c => k_is); (case k => k_is)))
    (case d_law_of => (refine' Wb.fnd ?a ?l ?c ?k; (case a => k_is); (case l => k_is); (case c => k_is); (case k => k_is)))
    (case d_law_names => (refine' Wb.fnd ?a ?l ?c ?k; (case a => k_is); (case l => k_is); (case c => k_is); (case k => k_is)))
    (case d_law_questions => (refine' Wb.fnd ?a ?l ?c ?k; (case a => k_is); (case l => k_is); (case c => k_is); (case k => k_is)))
    (case d_law_common => (refine' Wb.fnd ?a ?l ?c ?k; (case a => k_is); (case l => k_is); (case c => k_is); (case k => k_is)))
    (case d_law_low => (refine' Wb.fnd ?a ?l ?c ?k; (case a => k_is); (case l => k_is); (case c => k_is); (case k => k_is)))
    (case d_law_plus => (refine' Wb.fnd ?a ?l ?c ?k; (case a => k_is); (case l => k_is); (case c => k_is); (case k => k_is)))
    (case d_law_over => (refine' Wb.fnd ?a ?l ?c ?k; (case a => k_is); (case l => k_is); (case c => k_is); (case k => k_is)))
    (case d_law_sum => (refine' Wb.fnd ?a ?l ?c ?k; (case a => k_is); (case l => k_is); (case c => k_is); (case k => k_is)))
    (case d_law_rows => (refine' Wb.fnd ?a ?l ?c ?k; (case a => k_is); (case l => k_is); (case c => k_is); (case k => k_is)))
    (case d_law_truths => (refine' Wb.fnd ?a ?l ?c ?k; (case a => k_is); (case l => k_is); (case c => k_is); (case k => k_is)))
    (case d_law_within => (refine' Wb.fnd ?a ?l ?c ?k; (case a => k_is); (case l => k_is); (case c => k_is); (case k => k_is)))
    (case d_law_lots => (refine' Wb.fnd ?a ?l ?c ?k; (case a => k_is); (case l => k_is); (case c => k_is); (case k => k_is)))
    (case d_law_gathered => (refine' Wb.fnd ?a ?l ?c ?k; (case a => k_is); (case l => k_is); (case c => k_is); (case k => k_is)))
    (case d_law_triples => (refine' Wb.fnd ?a ?l ?c ?k; (case a => k_is); (case l => k_is); (case c => k_is); (case k => k_is)))
    (case d_law_nodes => (refine' Wb.fnd ?a ?l ?c ?k; (case a => k_is); (case l => k_is); (case c => k_is); (case k => k_is)))
    (case d_law_shares => (refine' Wb.fnd ?a ?l ?c ?k; (case a => k_is); (case l => k_is); (case c => k_is); (case k => k_is)))
    (case d_law_value => (refine' Wb.fnd ?a ?l ?c ?k; (case a => k_is); (case l => k_is); (case c => k_is); (case k => k_is)))
    (case d_law_values => (refine' Wb.fnd ?a ?l ?c ?k; (case a => k_is); (case l => k_is); (case c => k_is); (case k => k_is)))
    (case d_law_margin => (refine' Wb.fnd ?a ?l ?c ?k; (case a => k_is); (case l => k_is); (case c => k_is); (case k => k_is)))
    (case d_law_drawn => (refine' Wb.fnd ?a ?l ?c ?k; (case a => k_is); (case l => k_is); (case c => k_is); (case k => k_is)))

