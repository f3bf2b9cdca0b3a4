import PyProof.Rows.All
import Wide.All
import OpenK.AllK
import Wide.FinOn
import KE.KStateDown
import KE.KDictKeyed
import KE.KDictDisplayH
import KE.KDictLaw
import KE.SortData
import HandS.ForMost
import HandS.Exc
import HandS.TryOnly
import HandS.ExcOwn
import HandS.WordsExc
import HandS.Defaults
import HandS.IsInst
import HandS.TupAny
import HandS.TupMul
import HandS.TupLen
import HandS.Zip
import HandS.SortInts
import HandS.SetFor
import HandS.Strs
import HandS.Conv
import HandS.Nested
import HandS.CallLocal
import HandS.CallSlots
import HandS.WideBits
import HandS.Flow
import HandS.Style
import HandS.ExcSuper
import HandS.ExcIs
import HandS.ExcField
import HandS.Small
import HandS.Head0
import HandS.Head1
import HandS.Head2
import HandS.HeadEnd
import HandS.HeadHook1
import HandS.HeadHook2
import HandS.Walk
import KE.GoesEnum
import KE.GoesMore
import HandS.ExcCtx
import HandS.NestedK
import KE.GoesCell
import HandS.Iter
import KE.KSuper
import KE.KExcSuper
import HandS.ExcInit
import HandS.HeadHook4
import HandS.Hot
import HandS.HotCalls
import HandS.ExcValue
import PyProof.CompFree
import KE.KExcIs
import HandS.HeadHook3
import HandS.HeadWalk
import Lean
import PySem.Challenge.RW_fullorring_k92_whole_sides_of_even_drawe
section
set_option linter.all false
/-! Plain laws: sequences of draws, masks as sets of things. No program here. -/
namespace Fo

/-! ### masks -/
theorem clr {m x : Nat} (h : m.testBit x = true) (i : Nat) : (m - 2 ^ x).testBit i = (m.testBit i && decide (i ≠ x)) := by
  have e : m = 2 ^ (x + 1) * (m / 2 ^ (x + 1)) + (2 ^ x + m % 2 ^ x) := by
    have h1 := Nat.div_add_mod m (2 ^ (x + 1))
    have h2 : m % 2 ^ (x + 1) = 2 ^ x + m % 2 ^ x := by
      have h3 := Nat.mod_pow_succ (b := 2) (x := m) (k := x)
      have h4 : m / 2 ^ x % 2 = 1 := by
        have := h
        rw [Nat.testBit_eq_decide_div_mod_eq] at this
        exact of_decide_eq_true this
      rw [h4] at h3
      omega
    omega
  have hlt : m % 2 ^ x < 2 ^ x := Nat.mod_lt _ (Nat.two_pow_pos x)
  have hp : 2 ^ (x + 1) = 2 ^ x + 2 ^ x := by rw [Nat.pow_succ]; omega
  have e2 : m - 2 ^ x = 2 ^ (x + 1) * (m / 2 ^ (x + 1)) + m % 2 ^ x := by omega
  have t1 : m.testBit i = (2 ^ (x + 1) * (m / 2 ^ (x + 1)) + (2 ^ x + m % 2 ^ x)).testBit i := by rw [← e]
  rw [e2, t1, Nat.testBit_two_pow_mul_add _ (by omega), Nat.testBit_two_pow_mul_add _ (by omega)]
  by_cases hi : i < x + 1
  · rw [if_pos hi, if_pos hi]
    by_cases hx : i = x
    · subst hx
      rw [Nat.testBit_lt_two_pow hlt]
      simp
    · rw [Nat.testBit_two_pow_add_gt (by omega)]
      simp [hx]
  · rw [if_neg hi, if_neg hi]
    have : i ≠ x := by omega
    simp [this]
theorem clr_le {m x : Nat} (h : m.testBit x = true) : 2 ^ x ≤ m := Nat.ge_two_pow_of_testBit h
theorem whole_bit (n i : Nat) : (2 ^ n - 1).testBit i = decide (i < n) := Nat.testBit_two_pow_sub_one n i

/-! ### sequences -/
/-- the things of a row among those of a mask -/
def opn (r : List Nat) (m : Nat) : List Nat := r.filter fun x => m.testBit x
/-- all sequences of things, one out of each row, out of the mask m, no thing twice -/
def comp : List (List Nat) → Nat → List (List Nat)
  | [], _ => [[]]
  | r :: rs, m => (opn r m).flatMap fun x => (comp rs (m - 2 ^ x)).map fun v => x :: v
def cnt (rs : List (List Nat)) (m : Nat) : Nat := (comp rs m).length

theorem mem_opn {r : List Nat} {m x : Nat} : x ∈ opn r m ↔ x ∈ r ∧ m.testBit x = true := by
  unfold opn; rw [List.mem_filter]
theorem cnt_nil (m : Nat) : cnt [] m = 1 := rfl
theorem cnt_cons (r : List Nat) (rs : List (List Nat)) (m : Nat) : cnt (r :: rs) m = ((opn r m).map fun x => cnt rs (m - 2 ^ x)).sum := by
  unfold cnt
  rw [comp, List.length_flatMap]
  congr 1
  apply List.map_congr_left
  intro x _
  simp

theorem mem_comp : ∀ {rs : List (List Nat)} {m : Nat} {v : List Nat}, v ∈ comp rs m ↔ v.length = rs.length ∧ v.Nodup ∧ (∀ x ∈ v, m.testBit x = true) ∧ ∀ (j : Nat) (r : List Nat) (x : Nat), rs[j]? = some r → v[j]? = some x → x ∈ r
  | [], m, v => by
    rw [comp]
    constructor
    · intro h
      have : v = [] := by simpa using h
      subst this
      simp
    · rintro ⟨h, _⟩
      have : v = [] := by simpa using h
      subst this
      simp
  | p :: qs, m, v => by
    rw [comp, List.mem_flatMap]
    constructor
    · rintro ⟨x, hx, hv⟩
      obtain ⟨u, hu, rfl⟩ := List.mem_map.mp hv
      obtain ⟨h1, h2, h3, h4⟩ := (mem_comp (rs := qs)).mp hu
      obtain ⟨hr, hm⟩ := mem_opn.mp hx
      refine ⟨by simp [h1], ?_, ?_, ?_⟩
      · refine List.nodup_cons.mpr ⟨fun z => ?_, h2⟩
        have := h3 x z
        rw [clr hm] at this
        simp at this
      · intro y hy
        rcases List.mem_cons.mp hy with rfl | hy
        · exact hm
        · have := h3 y hy
          rw [clr hm] at this
          simp at this
          exact this.1
      · intro j q y hq hy
        cases j with
        | zero => simp at hq hy; subst hq; subst hy; exact hr
        | succ j => exact h4 j q y (by simpa using hq) (by simpa using hy)
    · rintro ⟨h1, h2, h3, h4⟩
      cases v with
      | nil => simp at h1
      | cons x u =>
        have hm : m.testBit x = true := h3 x List.mem_cons_self
        refine ⟨x, mem_opn.mpr ⟨h4 0 p x rfl rfl, hm⟩, List.mem_map.mpr ⟨u, (mem_comp (rs := qs)).mpr ⟨by simpa using h1, (List.nodup_cons.mp h2).2, fun y hy => ?_, fun j q y hq hy => h4 (j + 1) q y (by simpa using hq) (by simpa using hy)⟩, rfl⟩⟩
        rw [clr hm, h3 y (List.mem_cons_of_mem _ hy)]
        have : y ≠ x := fun e => (List.nodup_cons.mp h2).1 (e ▸ hy)
        simp [this]

theorem opn_nodup {r : List Nat} (h : r.Nodup) (m : Nat) : (opn r m).Nodup := h.sublist List.filter_sublist
theorem nodup_flat {l : List Nat} (hl : l.Nodup) {f : Nat → List (List Nat)} (hf : ∀ x, (f x).Nodup) : (l.flatMap fun x => (f x).map fun v => x :: v).Nodup := by
  induction l with
  | nil => exact List.Pairwise.nil
  | cons x r ih =>
    obtain ⟨h1, h2⟩ := List.nodup_cons.mp hl
    rw [List.flatMap_cons, List.nodup_append]
    refine ⟨?_, ih h2, ?_⟩
    · have := hf x
      exact List.Pairwise.map _ (fun a b hab e => hab (List.cons.inj e).2) this
    · intro v hv w hw e
      subst e
      obtain ⟨a, _, rfl⟩ := List.mem_map.mp hv
      obtain ⟨y, hy, hw⟩ := List.mem_flatMap.mp hw
      obtain ⟨b, _, e⟩ := List.mem_map.mp hw
      exact h1 ((List.cons.inj e).1 ▸ hy)
theorem comp_nodup : ∀ {rs : List (List Nat)} (_ : ∀ r ∈ rs, r.Nodup) (m : Nat), (comp rs m).Nodup
  | [], _, _ => by rw [comp]; simp
  | p :: qs, h, m => by
    rw [comp]
    exact nodup_flat (opn_nodup (h p List.mem_cons_self) m) fun x => comp_nodup (fun r hr => h r (List.mem_cons_of_mem _ hr)) _

/-! ### the order of the people does not matter for the count -/
theorem sum_map_add {α : Type} (l : List α) (f g : α → Nat) : (l.map fun x => f x + g x).sum = (l.map f).sum + (l.map g).sum := by
  induction l with
  | nil => rfl
  | cons a r ih => simp only [List.map_cons, List.sum_cons, ih]; omega
theorem sum_swap {α β : Type} (l : List α) (k : List β) (f : α → β → Nat) : (l.map fun x => (k.map fun y => f x y).sum).sum = (k.map fun y => (l.map fun x => f x y).sum).sum := by
  induction l with
  | nil =>
    simp only [List.map_nil, List.sum_nil]
    induction k with
    | nil => rfl
    | cons b r ih => simp only [List.map_cons, List.sum_cons, ← ih] <;> rfl
  | cons a r ih =>
    simp only [List.map_cons, List.sum_cons, ih]
    rw [← sum_map_add]
theorem sum_filter {α : Type} (l : List α) (p : α → Bool) (f : α → Nat) : ((l.filter p).map f).sum = (l.map fun x => if p x then f x else 0).sum := by
  induction l with
  | nil => rfl
  | cons a r ih =>
    rw [List.filter_cons]
    cases h : p a <;> simp [h, ih]
theorem sum_congr {α : Type} {l : List α} {f g : α → Nat} (h : ∀ x ∈ l, f x = g x) : (l.map f).sum = (l.map g).sum := by
  rw [List.map_congr_left h]
theorem cnt_swap (p q : List Nat) (qs : List (List Nat)) (m : Nat) : cnt (p :: q :: qs) m = cnt (q :: p :: qs) m := by
  rw [cnt_cons, cnt_cons]
  simp only [cnt_cons]
  unfold opn
  rw [sum_filter, sum_filter]
  simp only [sum_filter]
  have e : ∀ (a : Nat) (b : List Nat), (if m.testBit a then ((b).map fun y => if (m - 2 ^ a).testBit y then cnt qs (m - 2 ^ a - 2 ^ y) else 0).sum else 0) =
      ((b).map fun y => if m.testBit a ∧ m.testBit y ∧ y ≠ a then cnt qs (m - 2 ^ a - 2 ^ y) else 0).sum := by
    intro a b
    by_cases h : m.testBit a = true
    · rw [if_pos h]
      refine sum_congr fun y _ => ?_
      rw [clr h]
      by_cases h2 : m.testBit y = true <;> by_cases h3 : y = a <;> simp [h, h2, h3]
    · simp only [if_neg h]
      induction b with
      | nil => rfl
      | cons y r ih =>
        rw [List.map_cons, List.sum_cons, ← ih, if_neg fun z => h z.1]
  rw [sum_congr fun a _ => e a q, sum_congr (l := q) fun a _ => e a p, sum_swap]
  refine sum_congr fun y _ => sum_congr fun x _ => ?_
  by_cases h : m.testBit x ∧ m.testBit y ∧ y ≠ x
  · rw [if_pos h, if_pos ⟨h.2.1, h.1, Ne.symm h.2.2⟩]
    congr 1
    rw [Nat.sub_sub, Nat.sub_sub, Nat.add_comm]
  · rw [if_neg h, if_neg fun z => h ⟨z.2.1, z.1, Ne.symm z.2.2⟩]
theorem cnt_perm {ps qs : List (List Nat)} (h : ps.Perm qs) : ∀ m : Nat, cnt ps m = cnt qs m := by
  induction h with
  | nil => intro m; rfl
  | cons x _ ih => intro m; rw [cnt_cons, cnt_cons]; exact sum_congr fun y _ => ih _
  | swap x y l => intro m; exact cnt_swap y x l m
  | trans _ _ ih1 ih2 => intro m; exact (ih1 m).trans (ih2 m)
end Fo
end
section
set_option linter.all false
/-! Parts of the dealings, their least denominators, and what they say of a number of sides. -/
namespace Fo

/-- what is open in a row, with the dealings behind -/
def ops (r : List Nat) (rs : List (List Nat)) (m : Nat) : List (Nat × Nat) := ((opn r m).map fun x => (x, cnt rs (m - 2 ^ x))).filter fun e => decide (0 < e.2)
/-- a part's lowest denominator -/
def den (c n : Nat) : Nat := n / Nat.gcd c n
/-- all denominators from here on divide k -/
def Dv : List (List Nat) → Nat → Nat → Prop
  | [], _, _ => True
  | r :: rs, m, k => ∀ e ∈ ops r rs m, den e.2 (cnt (r :: rs) m) ∣ k ∧ Dv rs (m - 2 ^ e.1) k

theorem mem_ops {r : List Nat} {rs : List (List Nat)} {m x c : Nat} : (x, c) ∈ ops r rs m ↔ x ∈ opn r m ∧ c = cnt rs (m - 2 ^ x) ∧ 0 < c := by
  unfold ops
  rw [List.mem_filter, List.mem_map]
  constructor
  · rintro ⟨⟨y, hy, e⟩, h⟩
    cases e
    exact ⟨hy, rfl, of_decide_eq_true h⟩
  · rintro ⟨h1, rfl, h3⟩
    exact ⟨⟨x, h1, rfl⟩, decide_eq_true h3⟩
theorem sum_ops (r : List Nat) (rs : List (List Nat)) (m : Nat) : ((ops r rs m).map (·.2)).sum = cnt (r :: rs) m := by
  rw [cnt_cons]
  unfold ops
  induction opn r m with
  | nil => rfl
  | cons x l ih =>
    rw [List.map_cons, List.filter_cons]
    by_cases h : 0 < cnt rs (m - 2 ^ x)
    · simp only [decide_eq_true h, if_true, List.map_cons, List.sum_cons, ih]
    · have h0 : cnt rs (m - 2 ^ x) = 0 := by omega
      simp only [decide_eq_false h, List.map_cons, List.sum_cons, h0, Nat.zero_add]
      exact ih
theorem ops_fst (r : List Nat) (rs : List (List Nat)) (m : Nat) : (ops r rs m).map (·.1) = (opn r m).filter fun x => decide (0 < cnt rs (m - 2 ^ x)) := by
  unfold ops
  induction opn r m with
  | nil => rfl
  | cons x l ih =>
    rw [List.map_cons, List.filter_cons, List.filter_cons]
    by_cases h : 0 < cnt rs (m - 2 ^ x)
    · simp only [decide_eq_true h, if_true, List.map_cons, ih]
    · simp only [decide_eq_false h]
      exact ih
theorem ops_nil {r : List Nat} {rs : List (List Nat)} {m : Nat} (h : 0 < cnt (r :: rs) m) : ops r rs m ≠ [] := by
  intro e
  have := sum_ops r rs m
  rw [e] at this
  simp at this
  omega

/-! ### denominators -/
theorem den_dvd {c n s : Nat} (hn : 0 < n) : den c n ∣ s ↔ n ∣ s * c := by
  have hg : 0 < Nat.gcd c n := Nat.gcd_pos_of_pos_right _ hn
  obtain ⟨a, ha⟩ := Nat.gcd_dvd_left c n
  obtain ⟨b, hb⟩ := Nat.gcd_dvd_right c n
  have hco : Nat.Coprime a b := by
    have h1 : Nat.gcd (c.gcd n * a) (c.gcd n * b) = c.gcd n := by rw [← ha, ← hb]
    rw [Nat.gcd_mul_left] at h1
    have h2 : c.gcd n * a.gcd b = c.gcd n * 1 := by omega
    exact Nat.eq_of_mul_eq_mul_left hg h2
  have hd : den c n = b := by
    unfold den
    conv => lhs; lhs; rw [hb]
    exact Nat.mul_div_cancel_left b hg
  rw [hd]
  generalize c.gcd n = g at *
  subst ha hb
  constructor
  · rintro ⟨t, rfl⟩
    exact ⟨t * a, by ac_rfl⟩
  · intro h
    have h1 : g * b ∣ g * (s * a) := by rw [Nat.mul_left_comm] at h; exact h
    have h2 : b ∣ s * a := Nat.dvd_of_mul_dvd_mul_left hg h1
    exact (Nat.Coprime.symm hco).dvd_of_dvd_mul_right h2
theorem den_pos {c n : Nat} (hn : 0 < n) : 0 < den c n := by
  unfold den
  exact Nat.div_pos (Nat.le_of_dvd hn (Nat.gcd_dvd_right _ _)) (Nat.gcd_pos_of_pos_right _ hn)
theorem den_le (c n : Nat) : den c n ≤ n := Nat.div_le_self _ _
/-- the least number that all denominators divide -/
def lsd : List (List Nat) → Nat → Nat
  | [], _ => 1
  | r :: rs, m => (ops r rs m).foldl (fun k e => Nat.lcm k (Nat.lcm (den e.2 (cnt (r :: rs) m)) (lsd rs (m - 2 ^ e.1)))) 1
theorem foldl_lcm_dvd {α : Type} (f : α → Nat) (k : Nat) : ∀ (l : List α) (a : Nat), l.foldl (fun k e => Nat.lcm k (f e)) a ∣ k ↔ a ∣ k ∧ ∀ e ∈ l, f e ∣ k
  | [], a => by simp
  | e :: l, a => by
    rw [List.foldl_cons, foldl_lcm_dvd f k l]
    constructor
    · rintro ⟨h1, h2⟩
      refine ⟨Nat.dvd_trans (Nat.dvd_lcm_left _ _) h1, fun x hx => ?_⟩
      rcases List.mem_cons.mp hx with rfl | hx
      · exact Nat.dvd_trans (Nat.dvd_lcm_right _ _) h1
      · exact h2 x hx
    · rintro ⟨h1, h2⟩
      exact ⟨Nat.lcm_dvd h1 (h2 e List.mem_cons_self), fun x hx => h2 x (List.mem_cons_of_mem _ hx)⟩
theorem lsd_dvd : ∀ (rs : List (List Nat)) (m k : Nat), lsd rs m ∣ k ↔ Dv rs m k
  | [], m, k => by simp [lsd, Dv]
  | r :: rs, m, k => by
    rw [lsd, foldl_lcm_dvd, Dv]
    constructor
    · rintro ⟨_, h⟩ e he
      have := h e he
      exact ⟨Nat.dvd_trans (Nat.dvd_lcm_left _ _) this, (lsd_dvd rs _ k).mp (Nat.dvd_trans (Nat.dvd_lcm_right _ _) this)⟩
    · intro h
      exact ⟨Nat.one_dvd _, fun e he => Nat.lcm_dvd (h e he).1 ((lsd_dvd rs _ k).mpr (h e he).2)⟩
/-- a number that divides the same numbers is the same -/
theorem eq_of_dvd_iff {a b : Nat} (h : ∀ k, a ∣ k ↔ b ∣ k) : a = b := Nat.dvd_antisymm ((h b).mpr (Nat.dvd_refl _)) ((h a).mp (Nat.dvd_refl _))

/-! ### even turns: all products alike -/
/-- all products of numbers of open things on the ways from here on are P -/
def Pr : List (List Nat) → Nat → Nat → Prop
  | [], _, P => P = 1
  | r :: rs, m, P => ∀ e ∈ ops r rs m, ∃ P', P = (ops r rs m).length * P' ∧ Pr rs (m - 2 ^ e.1) P'
/-- all products lie from lo to hi -/
def Pb : List (List Nat) → Nat → Nat → Nat → Prop
  | [], _, lo, hi => lo ≤ 1 ∧ 1 ≤ hi
  | r :: rs, m, lo, hi => ∀ e ∈ ops r rs m, ∃ l h, Pb rs (m - 2 ^ e.1) l h ∧ lo ≤ (ops r rs m).length * l ∧ (ops r rs m).length * h ≤ hi
theorem Pb.pos : ∀ {rs : List (List Nat)} {m lo hi : Nat}, Pb rs m lo hi → 0 < cnt rs m → lo ≤ hi ∧ 1 ≤ hi
  | [], _, _, _, h, _ => ⟨Nat.le_trans h.1 h.2, h.2⟩
  | r :: rs, m, lo, hi, h, hc => by
    obtain ⟨e, he⟩ := List.exists_mem_of_ne_nil _ (ops_nil hc)
    obtain ⟨l, u, hb, h1, h2⟩ := h e he
    obtain ⟨x, c⟩ := e
    obtain ⟨h3, h4, h5⟩ := mem_ops.mp he
    dsimp only at *
    obtain ⟨h6, h7⟩ := hb.pos (by omega)
    have h8 : 0 < (ops r rs m).length := List.length_pos_of_mem he
    have h9 : (ops r rs m).length * l ≤ (ops r rs m).length * u := Nat.mul_le_mul_left _ h6
    have h10 : 1 * 1 ≤ (ops r rs m).length * u := Nat.mul_le_mul h8 h7
    omega
theorem Pb.pr : ∀ {rs : List (List Nat)} {m P : Nat}, Pb rs m P P → 0 < cnt rs m → Pr rs m P
  | [], _, _, h, _ => by
    have h1 := h.1
    have h2 := h.2
    show _ = 1
    omega
  | r :: rs, m, P, h, hc => by
    intro e he
    obtain ⟨l, u, hb, h1, h2⟩ := h e he
    obtain ⟨x, c⟩ := e
    obtain ⟨h3, h4, h5⟩ := mem_ops.mp he
    dsimp only at *
    obtain ⟨h6, h7⟩ := hb.pos (by omega)
    have h8 : 0 < (ops r rs m).length := List.length_pos_of_mem he
    have h9 : (ops r rs m).length * l ≤ (ops r rs m).length * u := Nat.mul_le_mul_left _ h6
    have h10 : (ops r rs m).length * l = (ops r rs m).length * u := by omega
    have h11 : l = u := Nat.eq_of_mul_eq_mul_left h8 h10
    subst h11
    exact ⟨l, by omega, hb.pr (by omega)⟩
/-- then so many are the dealings -/
theorem Pr.cnt : ∀ {rs : List (List Nat)} {m P : Nat}, Pr rs m P → 0 < cnt rs m → Fo.cnt rs m = P
  | [], _, _, h, _ => by rw [cnt_nil]; exact h.symm
  | r :: rs, m, P, h, hc => by
    obtain ⟨e0, he0⟩ := List.exists_mem_of_ne_nil _ (ops_nil hc)
    obtain ⟨P0, e1, _⟩ := h e0 he0
    have h8 : 0 < (ops r rs m).length := List.length_pos_of_mem he0
    have all : ∀ e ∈ ops r rs m, e.2 = P0 := by
      intro e he
      obtain ⟨P', e2, q⟩ := h e he
      obtain ⟨x, c⟩ := e
      obtain ⟨h3, h4, h5⟩ := mem_ops.mp he
      dsimp only at *
      have h9 : P' = P0 := Nat.eq_of_mul_eq_mul_left h8 (by omega)
      subst h9
      show c = P'
      rw [h4]
      exact q.cnt (by omega)
    have s : ∀ l : List (Nat × Nat), (∀ e ∈ l, e.2 = P0) → (l.map (·.2)).sum = l.length * P0 := by
      intro l
      induction l with
      | nil => intro _; simp
      | cons a r ih =>
        intro hl
        rw [List.map_cons, List.sum_cons, ih fun e he => hl e (List.mem_cons_of_mem _ he), hl a List.mem_cons_self, List.length_cons, Nat.succ_mul]
        omega
    rw [← sum_ops, s _ all]
    exact e1.symm
/-- all numbers of open things from here on divide k -/
def Wd : List (List Nat) → Nat → Nat → Prop
  | [], _, _ => True
  | r :: rs, m, k => ∀ e ∈ ops r rs m, (ops r rs m).length ∣ k ∧ Wd rs (m - 2 ^ e.1) k
theorem Pr.wd : ∀ {rs : List (List Nat)} {m P : Nat}, Pr rs m P → 0 < Fo.cnt rs m → ∀ k, Dv rs m k ↔ Wd rs m k
  | [], _, _, _, _, _ => Iff.rfl
  | r :: rs, m, P, h, hc, k => by
    have hP := h.cnt hc
    have step : ∀ e ∈ ops r rs m, den e.2 (Fo.cnt (r :: rs) m) = (ops r rs m).length ∧ ∀ k, Dv rs (m - 2 ^ e.1) k ↔ Wd rs (m - 2 ^ e.1) k := by
      intro e he
      obtain ⟨P', e2, q⟩ := h e he
      obtain ⟨x, c⟩ := e
      obtain ⟨h3, h4, h5⟩ := mem_ops.mp he
      dsimp only at *
      have hc' : 0 < Fo.cnt rs (m - 2 ^ x) := by omega
      have h6 := q.cnt hc'
      refine ⟨?_, q.wd hc'⟩
      show den c _ = _
      have h7 : c = P' := by omega
      rw [hP, e2, h7]
      unfold den
      have h9 : Nat.gcd P' ((ops r rs m).length * P') = P' := Nat.gcd_eq_left (Nat.dvd_mul_left _ _)
      rw [h9]
      exact Nat.mul_div_cancel _ (by omega)
    constructor
    · intro hd e he
      obtain ⟨h1, h2⟩ := hd e he
      obtain ⟨s1, s2⟩ := step e he
      exact ⟨s1 ▸ h1, (s2 k).mp h2⟩
    · intro hd e he
      obtain ⟨h1, h2⟩ := hd e he
      obtain ⟨s1, s2⟩ := step e he
      exact ⟨s1 ▸ h1, (s2 k).mpr h2⟩
/-- with at most n rows they divide the factorial -/
theorem opn_le {m n : Nat} {r : List Nat} (hr : r.Nodup) (hx : ∀ x ∈ r, m.testBit x = true → x < n) : (opn r m).length ≤ n := by
  have h := opn_nodup hr m
  have h2 : ∀ x ∈ opn r m, x ∈ List.range n := fun x hx' => List.mem_range.mpr (hx x (mem_opn.mp hx').1 (mem_opn.mp hx').2)
  have := h.length_le_of_subset (l₂ := List.range n) h2
  simpa using this
end Fo
end
section
set_option linter.all false
/-! The drawer that picks by parts: what its throws give, and when it is even. -/
namespace Fo

/-- the thing at a place among the parts -/
def pk : List (Nat × Nat) → Nat → Option Nat
  | [], _ => none
  | (x, c) :: r, a => if a < c then some x else pk r (a - c)
/-- how many of s throws pick x, where n dealings are behind -/
def qn (l : List (Nat × Nat)) (n s x : Nat) : Nat := ((List.range s).filter fun t => decide (pk l (t * n / s) = some x)).length
def tot (l : List (Nat × Nat)) : Nat := (l.map (·.2)).sum

theorem place_lt {t n s : Nat} (ht : t < s) (hn : 0 < n) : t * n / s < n := by
  rw [Nat.div_lt_iff_lt_mul (by omega), Nat.mul_comm n s]
  exact Nat.mul_lt_mul_of_pos_right ht hn
theorem pk_some : ∀ {l : List (Nat × Nat)} {a : Nat}, a < tot l → ∃ e ∈ l, pk l a = some e.1
  | [], a, h => by simp [tot] at h
  | (x, c) :: r, a, h => by
    unfold pk
    by_cases hc : a < c
    · rw [if_pos hc]
      exact ⟨(x, c), List.mem_cons_self, rfl⟩
    · rw [if_neg hc]
      have : a - c < tot r := by
        unfold tot at *
        rw [List.map_cons, List.sum_cons] at h
        dsimp only at h
        omega
      obtain ⟨e, he, q⟩ := pk_some this
      exact ⟨e, List.mem_cons_of_mem _ he, q⟩
theorem pk_mem {l : List (Nat × Nat)} {a x : Nat} (h : pk l a = some x) : ∃ c, (x, c) ∈ l := by
  induction l generalizing a with
  | nil => cases h
  | cons e r ih =>
    obtain ⟨y, c⟩ := e
    unfold pk at h
    split at h
    · cases h
      exact ⟨c, List.mem_cons_self⟩
    · obtain ⟨c', h'⟩ := ih h
      exact ⟨c', List.mem_cons_of_mem _ h'⟩

/-! ### counting throws -/
theorem len_filter_or {α : Type} (l : List α) (p q : α → Bool) (h : ∀ x ∈ l, p x = true → q x = false) : (l.filter fun x => p x || q x).length = (l.filter p).length + (l.filter q).length := by
  induction l with
  | nil => rfl
  | cons a r ih =>
    have ih := ih fun x hx => h x (List.mem_cons_of_mem _ hx)
    have ha := h a List.mem_cons_self
    rw [List.filter_cons, List.filter_cons, List.filter_cons]
    cases hp : p a <;> cases hq : q a
    · simpa using ih
    · simp only [Bool.false_or, if_true, List.length_cons, ih]; simp; omega
    · simp only [Bool.true_or, if_true, List.length_cons, ih]; simp; omega
    · rw [ha hp] at hq; cases hq
theorem range_lt_len {s C : Nat} (h : C ≤ s) : ((List.range s).filter fun t => decide (t < C)).length = C := by
  induction s generalizing C with
  | zero => simp; omega
  | succ s ih =>
    rw [List.range_succ, List.filter_append, List.length_append]
    by_cases hc : C ≤ s
    · rw [ih hc]
      have : ¬ s < C := by omega
      simp [this]
    · have e : C = s + 1 := by omega
      subst e
      have h2 : ((List.range s).filter fun t => decide (t < s + 1)) = (List.range s).filter fun t => decide (t < s) := by
        refine List.filter_congr fun x hx => ?_
        have := List.mem_range.mp hx
        have h3 : x < s + 1 := by omega
        simp [this, h3]
      rw [h2, ih (Nat.le_refl s)]
      simp
/-- so many throws fall below a whole bound -/
theorem below {s n C A : Nat} (hs : 0 < s) (hn : 0 < n) (h : A * n = C * s) (hA : A ≤ s) : ((List.range s).filter fun t => decide (t * n / s < C)).length = A := by
  rw [← range_lt_len hA]
  congr 1
  refine List.filter_congr fun t _ => ?_
  have : t * n / s < C ↔ t < A := by
    rw [Nat.div_lt_iff_lt_mul hs, ← h]
    exact Nat.mul_lt_mul_right hn
  exact decide_eq_decide.mpr this

/-- the throws from a place on -/
def qo (l : List (Nat × Nat)) (n s o x : Nat) : Nat := ((List.range s).filter fun t => decide (o ≤ t * n / s ∧ pk l (t * n / s - o) = some x)).length
theorem qn_qo (l : List (Nat × Nat)) (n s x : Nat) : qn l n s x = qo l n s 0 x := by
  unfold qn qo
  simp
theorem qo_exact {n s : Nat} (hs : 0 < s) (hn : 0 < n) : ∀ {l : List (Nat × Nat)} {o : Nat}, (l.map (·.1)).Nodup → (∀ e ∈ l, n ∣ s * e.2) → n ∣ s * o → o + tot l ≤ n → ∀ e ∈ l, qo l n s o e.1 * n = s * e.2
  | [], _, _, _, _, _, _, h => nomatch h
  | (x, c) :: r, o, hd, hdv, ho, ht, e, he => by
    have hd1 : x ∉ r.map (·.1) := (List.nodup_cons.mp hd).1
    have hd2 : (r.map (·.1)).Nodup := (List.nodup_cons.mp hd).2
    have ht' : o + c + tot r ≤ n := by
      unfold tot at *
      rw [List.map_cons, List.sum_cons] at ht
      dsimp only at ht
      omega
    have hc := hdv (x, c) List.mem_cons_self
    dsimp only at hc
    have hoc : n ∣ s * (o + c) := by rw [Nat.mul_add]; exact Nat.dvd_add ho hc
    rcases List.mem_cons.mp he with rfl | he
    · -- the first part
      obtain ⟨A, hA⟩ := ho
      obtain ⟨B, hB⟩ := hoc
      have hA1 : A * n = o * s := by rw [Nat.mul_comm A, ← hA, Nat.mul_comm]
      have hB1 : B * n = (o + c) * s := by rw [Nat.mul_comm B, ← hB, Nat.mul_comm]
      have hle : ∀ {C D : Nat}, D * n = C * s → C ≤ n → D ≤ s := fun {C D} h1 h2 => by
        have : D * n ≤ s * n := by rw [h1, Nat.mul_comm s n]; exact Nat.mul_le_mul_right _ h2
        exact Nat.le_of_mul_le_mul_right this hn
      have h1 := below hs hn hA1 (hle hA1 (by omega))
      have h2 := below hs hn hB1 (hle hB1 (by omega))
      have h3 : qo ((x, c) :: r) n s o x = ((List.range s).filter fun t => decide (o ≤ t * n / s ∧ t * n / s < o + c)).length := by
        unfold qo
        congr 1
        refine List.filter_congr fun t _ => decide_eq_decide.mpr ?_
        constructor
        · rintro ⟨g1, g2⟩
          unfold pk at g2
          split at g2
          · exact ⟨g1, by omega⟩
          · obtain ⟨c', g3⟩ := pk_mem g2
            exact absurd (List.mem_map.mpr ⟨_, g3, rfl⟩) hd1
        · rintro ⟨g1, g2⟩
          refine ⟨g1, ?_⟩
          unfold pk
          rw [if_pos (by omega)]
      have h4 := len_filter_or (List.range s) (fun t => decide (t * n / s < o)) (fun t => decide (o ≤ t * n / s ∧ t * n / s < o + c)) (fun t _ q => by
        have := of_decide_eq_true q
        exact decide_eq_false fun z => by omega)
      have h5 : ((List.range s).filter fun t => decide (t * n / s < o) || decide (o ≤ t * n / s ∧ t * n / s < o + c)) = (List.range s).filter fun t => decide (t * n / s < o + c) := by
        refine List.filter_congr fun t _ => ?_
        rw [← Bool.decide_or]
        exact decide_eq_decide.mpr (by omega)
      rw [h5, h2, h1] at h4
      dsimp only
      rw [h3]
      generalize ((List.range s).filter fun t => decide (o ≤ t * n / s ∧ t * n / s < o + c)).length = q at *
      subst h4
      rw [Nat.add_mul, hA1, Nat.add_mul] at hB1
      rw [Nat.mul_comm s c]
      omega
    · have ih := qo_exact hs hn hd2 (fun e he => hdv e (List.mem_cons_of_mem _ he)) hoc ht' e he
      rw [← ih]
      congr 1
      unfold qo
      congr 1
      refine List.filter_congr fun t _ => decide_eq_decide.mpr ?_
      have hne : x ≠ e.1 := fun q => hd1 (q ▸ List.mem_map.mpr ⟨e, he, rfl⟩)
      constructor
      · rintro ⟨g1, g2⟩
        unfold pk at g2
        split at g2
        · cases g2; exact absurd rfl hne
        · refine ⟨by omega, ?_⟩
          rw [← g2]
          congr 1
          omega
      · rintro ⟨g1, g2⟩
        refine ⟨by omega, ?_⟩
        unfold pk
        rw [if_neg (by omega), ← g2]
        congr 1
        omega
theorem qn_exact {l : List (Nat × Nat)} {n s : Nat} (hs : 0 < s) (hn : 0 < n) (hd : (l.map (·.1)).Nodup) (hdv : ∀ e ∈ l, n ∣ s * e.2) (ht : tot l = n) : ∀ e ∈ l, qn l n s e.1 * n = s * e.2 := fun e he => by
  rw [qn_qo]
  exact qo_exact hs hn hd hdv (by simp) (by omega) e he
/-- each throw picks one -/
theorem class_sum {s : Nat} {f : Nat → Option Nat} : ∀ {l : List Nat}, l.Nodup → (l.map fun x => ((List.range s).filter fun t => decide (f t = some x)).length).sum = ((List.range s).filter fun t => decide (∃ x ∈ l, f t = some x)).length
  | [], _ => by
    rw [List.map_nil, List.sum_nil, List.filter_eq_nil_iff.mpr (fun t _ => by simp)]
    rfl
  | x :: l, h => by
    obtain ⟨h1, h2⟩ := List.nodup_cons.mp h
    rw [List.map_cons, List.sum_cons, class_sum h2, ← len_filter_or (List.range s) (fun t => decide (f t = some x)) (fun t => decide (∃ x ∈ l, f t = some x))]
    · congr 1
      refine List.filter_congr fun t _ => ?_
      rw [← Bool.decide_or]
      refine decide_eq_decide.mpr ⟨fun q => ?_, fun q => ?_⟩
      · rcases q with q | ⟨y, hy, q⟩
        · exact ⟨x, List.mem_cons_self, q⟩
        · exact ⟨y, List.mem_cons_of_mem _ hy, q⟩
      · obtain ⟨y, hy, q⟩ := q
        rcases List.mem_cons.mp hy with rfl | hy
        · exact .inl q
        · exact .inr ⟨y, hy, q⟩
    · intro t _ q
      have q := of_decide_eq_true q
      refine decide_eq_false ?_
      rintro ⟨y, hy, q'⟩
      rw [q] at q'
      cases q'
      exact h1 hy
theorem qn_sum {l : List (Nat × Nat)} {n s : Nat} (hn : 0 < n) (hd : (l.map (·.1)).Nodup) (ht : tot l = n) : (l.map fun e => qn l n s e.1).sum = s := by
  have h := class_sum (s := s) (f := fun t => pk l (t * n / s)) hd
  have all : ∀ t, t ∈ List.range s → ∃ x ∈ (l.map (·.1) : List Nat), pk l (t * n / s) = some x := fun t ht' => by
    obtain ⟨e, he, q⟩ := pk_some (l := l) (a := t * n / s) (by rw [ht]; exact place_lt (List.mem_range.mp ht') hn)
    exact ⟨e.1, List.mem_map.mpr ⟨e, he, rfl⟩, q⟩
  rw [List.map_map, List.filter_eq_self.mpr fun t ht' => decide_eq_true (all t ht'), List.length_range] at h
  have e : (l.map fun e => qn l n s e.1) = l.map ((fun x => ((List.range s).filter fun t => decide (pk l (t * n / s) = some x)).length) ∘ (·.1)) := rfl
  rw [e, h]

/-! ### the ways of the drawer -/
/-- the parts at a standing, the throws that pick a thing -/
def qs (r : List Nat) (rs : List (List Nat)) (m s x : Nat) : Nat := qn (ops r rs m) (cnt (r :: rs) m) s x
/-- how many ends are come to -/
def Ln : List (List Nat) → Nat → Nat → Nat
  | [], _, _ => 1
  | r :: rs, m, s => (((ops r rs m).filter fun e => decide (0 < qs r rs m s e.1)).map fun e => Ln rs (m - 2 ^ e.1) s).sum
/-- what is true of the weights of all ends -/
def Al : List (List Nat) → Nat → Nat → Nat → (Nat → Prop) → Prop
  | [], _, _, w, φ => φ w
  | r :: rs, m, s, w, φ => ∀ e ∈ ops r rs m, 0 < qs r rs m s e.1 → Al rs (m - 2 ^ e.1) s (w * qs r rs m s e.1) φ
theorem Al.imp {φ ψ : Nat → Prop} (h : ∀ w, φ w → ψ w) : ∀ {rs : List (List Nat)} {m s w : Nat}, Al rs m s w φ → Al rs m s w ψ
  | [], _, _, _, a => h _ a
  | _ :: _, _, _, _, a => fun e he q => Al.imp h (a e he q)
theorem sum_le {α : Type} {l : List α} {f g : α → Nat} (h : ∀ x ∈ l, f x ≤ g x) : (l.map f).sum ≤ (l.map g).sum := by
  induction l with
  | nil => exact Nat.le_refl _
  | cons a r ih =>
    rw [List.map_cons, List.map_cons, List.sum_cons, List.sum_cons]
    exact Nat.add_le_add (h a List.mem_cons_self) (ih fun x hx => h x (List.mem_cons_of_mem _ hx))
theorem sum_le_eq {α : Type} {l : List α} {f g : α → Nat} (h : ∀ x ∈ l, f x ≤ g x) (e : (l.map f).sum = (l.map g).sum) : ∀ x ∈ l, f x = g x := by
  induction l with
  | nil => intro x hx; exact nomatch hx
  | cons a r ih =>
    rw [List.map_cons, List.map_cons, List.sum_cons, List.sum_cons] at e
    have h1 := h a List.mem_cons_self
    have h2 := sum_le (l := r) fun x hx => h x (List.mem_cons_of_mem _ hx)
    intro x hx
    rcases List.mem_cons.mp hx with rfl | hx
    · omega
    · exact ih (fun x hx => h x (List.mem_cons_of_mem _ hx)) (by omega) x hx
theorem Ln_le : ∀ (rs : List (List Nat)) (m s : Nat), Ln rs m s ≤ cnt rs m
  | [], _, _ => Nat.le_refl _
  | r :: rs, m, s => by
    rw [Ln, sum_filter, ← sum_ops]
    refine sum_le fun e he => ?_
    obtain ⟨x, c⟩ := e
    obtain ⟨_, h2, _⟩ := mem_ops.mp he
    dsimp only
    split
    · rw [h2]; exact Ln_le rs _ s
    · omega
theorem Ln_eq {r : List Nat} {rs : List (List Nat)} {m s : Nat} (h : Ln (r :: rs) m s = cnt (r :: rs) m) : ∀ e ∈ ops r rs m, 0 < qs r rs m s e.1 ∧ Ln rs (m - 2 ^ e.1) s = cnt rs (m - 2 ^ e.1) := by
  rw [Ln, sum_filter, ← sum_ops] at h
  have q := sum_le_eq (fun e he => ?_) h
  · intro e he
    have := q e he
    obtain ⟨x, c⟩ := e
    obtain ⟨_, h2, h3⟩ := mem_ops.mp he
    dsimp only at *
    split at this
    · rename_i hp
      exact ⟨of_decide_eq_true hp, by omega⟩
    · omega
  · obtain ⟨x, c⟩ := e
    obtain ⟨_, h2, _⟩ := mem_ops.mp he
    dsimp only
    split
    · rw [h2]; exact Ln_le rs _ s
    · omega
theorem ops_nd {r : List Nat} (hr : r.Nodup) (rs : List (List Nat)) (m : Nat) : ((ops r rs m).map (·.1)).Nodup := by
  rw [ops_fst]
  exact (opn_nodup hr m).sublist List.filter_sublist

/-- an even drawer's sides are divided by all denominators -/
theorem even_dv : ∀ {rs : List (List Nat)} {m s w N S : Nat}, (∀ r ∈ rs, r.Nodup) → 0 < s → 0 < cnt rs m → Ln rs m s = cnt rs m → Al rs m s w (fun l => l * N = S) →
    w * s ^ rs.length * N = cnt rs m * S ∧ (0 < w → 0 < N → Dv rs m s)
  | [], _, _, w, N, S, _, _, _, _, h => ⟨by
      have h : w * N = S := h
      rw [cnt_nil]; simpa using h, fun _ _ => True.intro⟩
  | r :: rs, m, s, w, N, S, hn, hs, hc, hl, ha => by
    have hr := hn r List.mem_cons_self
    have hall := Ln_eq hl
    have ih : ∀ e ∈ ops r rs m, w * qs r rs m s e.1 * s ^ rs.length * N = e.2 * S ∧ (0 < w * qs r rs m s e.1 → 0 < N → Dv rs (m - 2 ^ e.1) s) := by
      intro e he
      obtain ⟨q1, q2⟩ := hall e he
      obtain ⟨x, c⟩ := e
      obtain ⟨h1, h2, h3⟩ := mem_ops.mp he
      dsimp only at *
      have := even_dv (fun r hr => hn r (List.mem_cons_of_mem _ hr)) hs (by omega) q2 (ha (x, c) he q1)
      rw [← h2] at this
      exact this
    have hsum : ∀ l : List (Nat × Nat), (∀ e ∈ l, w * qs r rs m s e.1 * s ^ rs.length * N = e.2 * S) → w * (l.map fun e => qs r rs m s e.1).sum * s ^ rs.length * N = tot l * S := by
      intro l
      induction l with
      | nil => intro _; simp [tot]
      | cons a l ih2 =>
        intro h
        have h1 := h a List.mem_cons_self
        have h2 := ih2 fun e he => h e (List.mem_cons_of_mem _ he)
        unfold tot at *
        rw [List.map_cons, List.sum_cons, List.map_cons, List.sum_cons, Nat.mul_add, Nat.add_mul, Nat.add_mul, Nat.add_mul, h1, h2]
    have htot : tot (ops r rs m) = cnt (r :: rs) m := sum_ops r rs m
    have h1 := hsum _ fun e he => (ih e he).1
    have h2 : ((ops r rs m).map fun e => qs r rs m s e.1).sum = s := qn_sum hc (ops_nd hr rs m) htot
    rw [h2, htot] at h1
    have h3 : w * s ^ (r :: rs).length * N = cnt (r :: rs) m * S := by
      rw [List.length_cons, Nat.pow_succ, ← h1]
      ac_rfl
    refine ⟨h3, fun hw hN e he => ?_⟩
    obtain ⟨q1, q2⟩ := hall e he
    obtain ⟨g1, g2⟩ := ih e he
    refine ⟨(den_dvd hc).mpr ⟨qs r rs m s e.1, ?_⟩, g2 (Nat.mul_pos hw q1) hN⟩
    have hp : 0 < w * s ^ rs.length * N := Nat.mul_pos (Nat.mul_pos hw (Nat.pow_pos hs)) hN
    refine Nat.eq_of_mul_eq_mul_left hp ?_
    calc w * s ^ rs.length * N * (s * e.2) = e.2 * (w * s * s ^ rs.length * N) := by ac_rfl
      _ = e.2 * (cnt (r :: rs) m * S) := by rw [h1]
      _ = cnt (r :: rs) m * (e.2 * S) := by ac_rfl
      _ = cnt (r :: rs) m * (w * qs r rs m s e.1 * s ^ rs.length * N) := by rw [g1]
      _ = w * s ^ rs.length * N * (cnt (r :: rs) m * qs r rs m s e.1) := by ac_rfl
/-- and the other way round -/
theorem dv_even : ∀ {rs : List (List Nat)} {m s : Nat}, (∀ r ∈ rs, r.Nodup) → 0 < s → 0 < cnt rs m → Dv rs m s → Ln rs m s = cnt rs m ∧ ∀ w, Al rs m s w (fun l => l * cnt rs m = w * s ^ rs.length)
  | [], _, _, _, _, _, _ => ⟨rfl, fun w => by show w * 1 = w * 1; rfl⟩
  | r :: rs, m, s, hn, hs, hc, hd => by
    have hr := hn r List.mem_cons_self
    have htot : tot (ops r rs m) = cnt (r :: rs) m := sum_ops r rs m
    have hq : ∀ e ∈ ops r rs m, qs r rs m s e.1 * cnt (r :: rs) m = s * e.2 := qn_exact hs hc (ops_nd hr rs m) (fun e he => (den_dvd hc).mp (hd e he).1) htot
    have hpos : ∀ e ∈ ops r rs m, 0 < qs r rs m s e.1 := by
      intro e he
      have h1 := hq e he
      obtain ⟨x, c⟩ := e
      obtain ⟨_, _, h3⟩ := mem_ops.mp he
      dsimp only at *
      have h4 : 0 < s * c := Nat.mul_pos hs h3
      rw [← h1] at h4
      exact Nat.pos_of_mul_pos_right h4
    have ih : ∀ e ∈ ops r rs m, Ln rs (m - 2 ^ e.1) s = e.2 ∧ ∀ w, Al rs (m - 2 ^ e.1) s w (fun l => l * e.2 = w * s ^ rs.length) := by
      intro e he
      have h1 := (hd e he).2
      obtain ⟨x, c⟩ := e
      obtain ⟨_, h2, h3⟩ := mem_ops.mp he
      dsimp only at *
      have := dv_even (fun r hr => hn r (List.mem_cons_of_mem _ hr)) hs (by omega) h1
      rw [← h2] at this
      exact this
    refine ⟨?_, fun w e he hp => ?_⟩
    · rw [Ln, sum_filter, ← sum_ops]
      refine sum_congr fun e he => ?_
      rw [decide_eq_true (hpos e he), if_pos rfl, (ih e he).1]
    · refine ((ih e he).2 (w * qs r rs m s e.1)).imp fun l hl => ?_
      have h1 := hq e he
      have h3 : 0 < e.2 := by
        obtain ⟨x, c⟩ := e
        exact (mem_ops.mp he).2.2
      refine Nat.eq_of_mul_eq_mul_left h3 ?_
      calc e.2 * (l * cnt (r :: rs) m) = l * e.2 * cnt (r :: rs) m := by ac_rfl
        _ = w * qs r rs m s e.1 * s ^ rs.length * cnt (r :: rs) m := by rw [hl]
        _ = w * s ^ rs.length * (qs r rs m s e.1 * cnt (r :: rs) m) := by ac_rfl
        _ = w * s ^ rs.length * (s * e.2) := by rw [h1]
        _ = e.2 * (w * s ^ (r :: rs).length) := by rw [List.length_cons, Nat.pow_succ]; ac_rfl
/-- THE LAW of the drawer -/
theorem drawer {rs : List (List Nat)} {m s : Nat} (hn : ∀ r ∈ rs, r.Nodup) (hs : 0 < s) (hc : 0 < cnt rs m) :
    (Ln rs m s = cnt rs m ∧ Al rs m s 1 (fun l => l * cnt rs m = s ^ rs.length)) ↔ lsd rs m ∣ s := by
  rw [lsd_dvd]
  constructor
  · rintro ⟨h1, h2⟩
    exact (even_dv hn hs hc h1 h2).2 (by decide) hc
  · intro h
    obtain ⟨h1, h2⟩ := dv_even hn hs hc h
    refine ⟨h1, (h2 1).imp fun l hl => by rw [hl, Nat.one_mul]⟩
end Fo
end
section
set_option linter.all false
/-! Dealings as the law lists them: vectors by person; told again as sequences in a turn. -/
namespace Fo

/-- what d gives the people qs, one behind another -/
def seqq (qs : List Nat) (d : List Nat) : List Nat := qs.map fun p => d.getD p 0
/-- D are just the vectors whose things for qs are the sequences out of rs and m -/
def Sm (qs : List Nat) (rs : List (List Nat)) (m : Nat) (D : List (List Nat)) : Prop := (D.map (seqq qs)).Perm (comp rs m)
def headIs (p x : Nat) (d : List Nat) : Bool := decide (d.getD p 0 = x)

theorem Sm.len {qs rs m D} (h : Sm qs rs m D) : D.length = cnt rs m := by
  have := h.length_eq
  rw [List.length_map] at this
  exact this
theorem comp_head {r : List Nat} (hr : r.Nodup) (rs : List (List Nat)) {m x : Nat} (hx : x ∈ opn r m) : ((comp (r :: rs) m).filter fun v => decide (v.head? = some x)) = (comp rs (m - 2 ^ x)).map fun v => x :: v := by
  rw [comp]
  have hnd := opn_nodup hr m
  generalize opn r m = l at *
  induction l with
  | nil => exact nomatch hx
  | cons y l ih =>
    rw [List.flatMap_cons, List.filter_append]
    obtain ⟨h1, h2⟩ := List.nodup_cons.mp hnd
    have other : ∀ (L : List Nat), x ∉ L → ((L.flatMap fun x => (comp rs (m - 2 ^ x)).map fun v => x :: v).filter fun v => decide (v.head? = some x)) = [] := by
      intro L hL
      rw [List.filter_eq_nil_iff]
      intro v hv
      obtain ⟨z, hz, hv⟩ := List.mem_flatMap.mp hv
      obtain ⟨u, _, rfl⟩ := List.mem_map.mp hv
      simp only [List.head?_cons, Option.some.injEq, decide_eq_true_eq]
      intro e
      subst e
      exact hL hz
    by_cases e : y = x
    · subst e
      rw [other l h1, List.append_nil, List.filter_eq_self]
      intro v hv
      obtain ⟨u, _, rfl⟩ := List.mem_map.mp hv
      simp
    · have hx' : x ∈ l := by
        rcases List.mem_cons.mp hx with e' | h
        · exact absurd e'.symm e
        · exact h
      have : (((comp rs (m - 2 ^ y)).map fun v => y :: v).filter fun v => decide (v.head? = some x)) = [] := by
        rw [List.filter_eq_nil_iff]
        intro v hv
        obtain ⟨u, _, rfl⟩ := List.mem_map.mp hv
        simpa using e
      rw [this, List.nil_append]
      exact ih hx' h2
theorem Sm.step {p : Nat} {qs : List Nat} {r : List Nat} {rs : List (List Nat)} {m : Nat} {D : List (List Nat)} (h : Sm (p :: qs) (r :: rs) m D) (hr : r.Nodup) {x : Nat} (hx : x ∈ opn r m) : Sm qs rs (m - 2 ^ x) (D.filter (headIs p x)) := by
  unfold Sm at *
  have h1 := (h.filter fun v => decide (v.head? = some x)).map List.tail
  rw [comp_head hr rs hx, List.map_map] at h1
  have e1 : (comp rs (m - 2 ^ x)).map (List.tail ∘ fun v => x :: v) = comp rs (m - 2 ^ x) := by
    have : (List.tail ∘ fun v : List Nat => x :: v) = id := rfl
    rw [this, List.map_id]
  rw [e1, List.filter_map, List.map_map] at h1
  have e2 : (List.tail ∘ seqq (p :: qs)) = seqq qs := rfl
  have e3 : ((fun v : List Nat => decide (v.head? = some x)) ∘ seqq (p :: qs)) = headIs p x := by
    funext d
    show decide (some (d.getD p 0) = some x) = decide (d.getD p 0 = x)
    simp
  rw [e2, e3] at h1
  exact h1
theorem Sm.head {p : Nat} {qs : List Nat} {r : List Nat} {rs : List (List Nat)} {m : Nat} {D : List (List Nat)} (h : Sm (p :: qs) (r :: rs) m D) {d : List Nat} (hd : d ∈ D) : d.getD p 0 ∈ opn r m ∧ 0 < cnt rs (m - 2 ^ d.getD p 0) := by
  have h1 : seqq (p :: qs) d ∈ comp (r :: rs) m := h.mem_iff.mp (List.mem_map.mpr ⟨d, hd, rfl⟩)
  rw [comp] at h1
  obtain ⟨x, hx, hv⟩ := List.mem_flatMap.mp h1
  obtain ⟨u, hu, e⟩ := List.mem_map.mp hv
  have e' : x = d.getD p 0 := (List.cons.inj e).1
  subst e'
  exact ⟨hx, List.length_pos_of_mem hu⟩
/-- the things that the dealings give a person are just the open ones -/
theorem Sm.heads {p : Nat} {qs : List Nat} {r : List Nat} {rs : List (List Nat)} {m : Nat} {D : List (List Nat)} (h : Sm (p :: qs) (r :: rs) m D) (hr : r.Nodup) (x : Nat) : x ∈ (D.map fun d => d.getD p 0) ↔ x ∈ (ops r rs m).map (·.1) := by
  constructor
  · intro hx
    obtain ⟨d, hd, rfl⟩ := List.mem_map.mp hx
    obtain ⟨h1, h2⟩ := h.head hd
    exact List.mem_map.mpr ⟨(d.getD p 0, cnt rs (m - 2 ^ d.getD p 0)), mem_ops.mpr ⟨h1, rfl, h2⟩, rfl⟩
  · intro hx
    obtain ⟨⟨y, c⟩, he, rfl⟩ := List.mem_map.mp hx
    obtain ⟨h1, h2, h3⟩ := mem_ops.mp he
    have h4 := (h.step hr h1).len
    have h5 : 0 < (D.filter (headIs p y)).length := by omega
    obtain ⟨d, hd⟩ := List.exists_mem_of_length_pos h5
    obtain ⟨h6, h7⟩ := List.mem_filter.mp hd
    exact List.mem_map.mpr ⟨d, h6, of_decide_eq_true h7⟩
def Asc (l : List Nat) : Prop := l.Pairwise (· < ·)
theorem Asc.nodup {l : List Nat} (h : Asc l) : l.Nodup := h.imp fun h => Nat.ne_of_lt h
theorem asc_ext : ∀ {a b : List Nat}, Asc a → Asc b → (∀ x, x ∈ a ↔ x ∈ b) → a = b
  | [], [], _, _, _ => rfl
  | [], y :: b, _, _, h => absurd ((h y).mpr List.mem_cons_self) (by simp)
  | x :: a, [], _, _, h => absurd ((h x).mp List.mem_cons_self) (by simp)
  | x :: a, y :: b, ha, hb, h => by
    obtain ⟨ha1, ha2⟩ := List.pairwise_cons.mp ha
    obtain ⟨hb1, hb2⟩ := List.pairwise_cons.mp hb
    have e : x = y := by
      rcases List.mem_cons.mp ((h x).mp List.mem_cons_self) with e | e
      · exact e
      · rcases List.mem_cons.mp ((h y).mpr List.mem_cons_self) with e' | e'
        · exact e'.symm
        · have := hb1 x e; have := ha1 y e'; omega
    subst e
    congr 1
    refine asc_ext ha2 hb2 fun z => ⟨fun hz => ?_, fun hz => ?_⟩
    · rcases List.mem_cons.mp ((h z).mp (List.mem_cons_of_mem _ hz)) with e | e
      · have := ha1 z hz; omega
      · exact e
    · rcases List.mem_cons.mp ((h z).mpr (List.mem_cons_of_mem _ hz)) with e | e
      · have := hb1 z hz; omega
      · exact e
theorem ops_asc {r : List Nat} (hr : Asc r) (rs : List (List Nat)) (m : Nat) : Asc ((ops r rs m).map (·.1)) := by
  rw [ops_fst]
  exact ((hr.sublist List.filter_sublist).sublist List.filter_sublist)
/-- the law's shares are what is open, with the dealings behind -/
theorem Sm.shares {p : Nat} {qs : List Nat} {r : List Nat} {rs : List (List Nat)} {m : Nat} {D : List (List Nat)} (h : Sm (p :: qs) (r :: rs) m D) (hr : Asc r) {ns : List Nat} (hn : Asc ns) (hm : ∀ x, x ∈ ns ↔ x ∈ (D.map fun d => d.getD p 0)) :
    (ns.map fun x => (x, (D.filter (headIs p x)).length)) = ops r rs m := by
  have e : ns = (ops r rs m).map (·.1) := asc_ext hn (ops_asc hr rs m) fun x => (hm x).trans (h.heads hr.nodup x)
  rw [e, List.map_map]
  conv => rhs; rw [← List.map_id (ops r rs m)]
  refine List.map_congr_left fun e he => ?_
  obtain ⟨x, c⟩ := e
  obtain ⟨h1, h2, h3⟩ := mem_ops.mp he
  show (x, (D.filter (headIs p x)).length) = (x, c)
  rw [(h.step hr.nodup h1).len, h2]

/-! ### the whole: vectors by person, sequences by turn -/
def rowOf (rows : List (List Nat)) (p : Nat) : List Nat := rows.getD p []
theorem rowOf_eq {rows : List (List Nat)} {p : Nat} {r : List Nat} (h : rows[p]? = some r) : rowOf rows p = r := by
  unfold rowOf
  rw [List.getD_eq_getElem?_getD, h] <;> rfl
theorem map_rowOf (rows : List (List Nat)) : (List.range rows.length).map (rowOf rows) = rows := by
  apply List.ext_getElem?
  intro i
  rw [List.getElem?_map]
  by_cases h : i < rows.length
  · rw [List.getElem?_range h, List.getElem?_eq_getElem h]
    show some (rowOf rows i) = _
    rw [rowOf_eq (List.getElem?_eq_getElem h)]
  · rw [List.getElem?_eq_none (by simpa using h), List.getElem?_eq_none (by simpa using h)]
    rfl
/-- a turn: all people once -/
def IsTurn (n : Nat) (t : List Nat) : Prop := t.Perm (List.range n)
theorem seqq_range {n : Nat} {d : List Nat} (h : d.length = n) : seqq (List.range n) d = d := by
  apply List.ext_getElem?
  intro i
  unfold seqq
  rw [List.getElem?_map]
  by_cases hi : i < n
  · rw [List.getElem?_range hi]
    show some (d.getD i 0) = _
    rw [List.getD_eq_getElem?_getD, List.getElem?_eq_getElem (by omega)]
    rfl
  · rw [List.getElem?_eq_none (by simpa using hi), List.getElem?_eq_none (by omega)]
    rfl
theorem perm_of_nodup {α : Type} {l k : List α} (h1 : l.Nodup) (h2 : k.Nodup) (h : ∀ x, x ∈ l ↔ x ∈ k) : l.Perm k := (List.perm_ext_iff_of_nodup h1 h2).mpr fun {x} => h x
/-- read the people's things off a sequence in a turn -/
theorem sm_turn {rows : List (List Nat)} (hr : ∀ r ∈ rows, r.Nodup) {t : List Nat} (ht : IsTurn rows.length t) {D : List (List Nat)} (hD : D.Perm (comp rows (2 ^ rows.length - 1))) : Sm t (t.map (rowOf rows)) (2 ^ rows.length - 1) D := by
  unfold Sm
  have hnd : t.Nodup := ht.nodup_iff.mpr List.nodup_range
  have hlen : t.length = rows.length := by rw [ht.length_eq, List.length_range]
  have hmem : ∀ p, p ∈ t ↔ p < rows.length := fun p => by rw [ht.mem_iff, List.mem_range]
  have hDl : ∀ d ∈ D, d.length = rows.length ∧ d.Nodup ∧ (∀ x ∈ d, (2 ^ rows.length - 1).testBit x = true) ∧ ∀ (j : Nat) (r : List Nat) (x : Nat), rows[j]? = some r → d[j]? = some x → x ∈ r := fun d hd => mem_comp.mp (hD.mem_iff.mp hd)
  -- a vector is told by its things in the turn
  have inj : ∀ d ∈ D, ∀ e ∈ D, seqq t d = seqq t e → d = e := by
    intro d hd e he h
    obtain ⟨l1, _⟩ := hDl d hd
    obtain ⟨l2, _⟩ := hDl e he
    apply List.ext_getElem?
    intro i
    by_cases hi : i < rows.length
    · obtain ⟨j, hj, ej⟩ := List.getElem_of_mem ((hmem i).mpr hi)
      have h1 : (seqq t d)[j]? = (seqq t e)[j]? := by rw [h]
      unfold seqq at h1
      rw [List.getElem?_map, List.getElem?_map, List.getElem?_eq_getElem hj, ej] at h1
      have h2 : d.getD i 0 = e.getD i 0 := Option.some.inj h1
      rw [List.getD_eq_getElem?_getD, List.getD_eq_getElem?_getD, List.getElem?_eq_getElem (by omega), List.getElem?_eq_getElem (by omega)] at h2
      rw [List.getElem?_eq_getElem (by omega), List.getElem?_eq_getElem (by omega)]
      exact congrArg some h2
    · rw [List.getElem?_eq_none (by omega), List.getElem?_eq_none (by omega)]
  have hDn : D.Nodup := hD.nodup_iff.mpr (comp_nodup hr _)
  refine perm_of_nodup ?_ (comp_nodup (fun r h => ?_) _) fun v => ?_
  · exact List.Pairwise.map _ (fun a b q => q) (by
      refine hDn.imp_of_mem fun {a b} ha hb hab e => hab (inj a ha b hb e))
  · obtain ⟨p, hp, rfl⟩ := List.mem_map.mp h
    have hp' := (hmem p).mp hp
    rw [rowOf_eq (List.getElem?_eq_getElem hp')]
    exact hr _ (List.getElem_mem hp')
  · rw [List.mem_map, mem_comp]
    constructor
    · rintro ⟨d, hd, rfl⟩
      obtain ⟨l1, l2, l3, l4⟩ := hDl d hd
      have hget : ∀ p ∈ t, d[p]? = some (d.getD p 0) := fun p hp => by
        have := (hmem p).mp hp
        rw [List.getD_eq_getElem?_getD, List.getElem?_eq_getElem (by omega)]
        rfl
      refine ⟨by unfold seqq; simp, ?_, ?_, ?_⟩
      · unfold seqq
        refine List.Pairwise.map _ (fun a b q => q) (hnd.imp_of_mem fun {a b} ha hb hab e => ?_)
        have h1 := hget a ha
        have h2 := hget b hb
        rw [e] at h1
        obtain ⟨g1, e1⟩ := List.getElem?_eq_some_iff.mp h1
        obtain ⟨g2, e2⟩ := List.getElem?_eq_some_iff.mp h2
        exact hab ((List.getElem_inj l2).mp (e1.trans e2.symm))
      · intro x hx
        obtain ⟨p, hp, rfl⟩ := List.mem_map.mp hx
        exact l3 _ (List.mem_of_getElem? (hget p hp))
      · intro j r x hj hx
        unfold seqq at hx
        rw [List.getElem?_map] at hj hx
        cases e : t[j]? with
        | none => rw [e] at hj; cases hj
        | some p =>
          rw [e] at hj hx
          cases hj; cases hx
          have hp := List.mem_of_getElem? e
          have hp' := (hmem p).mp hp
          rw [rowOf_eq (List.getElem?_eq_getElem hp')]
          exact l4 p _ _ (List.getElem?_eq_getElem hp') (hget p hp)
    · rintro ⟨l1, l2, l3, l4⟩
      rw [List.length_map] at l1
      -- the vector: person p gets the thing at p's place in the turn
      have hidx : ∀ p, p ∈ t → t.idxOf p < t.length ∧ t[t.idxOf p]? = some p := fun p hp => ⟨List.idxOf_lt_length_iff.mpr hp, by rw [List.getElem?_eq_getElem (List.idxOf_lt_length_iff.mpr hp)]; simp⟩
      let d := (List.range rows.length).map fun p => v.getD (t.idxOf p) 0
      have dget : ∀ p, p < rows.length → d[p]? = some (v.getD (t.idxOf p) 0) := fun p hp => by
        show ((List.range rows.length).map fun p => v.getD (t.idxOf p) 0)[p]? = _
        rw [List.getElem?_map, List.getElem?_range hp]
        rfl
      have vget : ∀ p, p < rows.length → v[t.idxOf p]? = some (v.getD (t.idxOf p) 0) := fun p hp => by
        have := (hidx p ((hmem p).mpr hp)).1
        rw [List.getD_eq_getElem?_getD, List.getElem?_eq_getElem (by omega)]
        rfl
      have sd : seqq t d = v := by
        apply List.ext_getElem?
        intro i
        unfold seqq
        rw [List.getElem?_map]
        by_cases hi : i < t.length
        · rw [List.getElem?_eq_getElem hi]
          have hp : t[i] < rows.length := (hmem _).mp (List.getElem_mem hi)
          show some (d.getD t[i] 0) = _
          rw [List.getD_eq_getElem?_getD, dget _ hp]
          have h2 : t.idxOf t[i] = i := hnd.idxOf_getElem i hi
          show some (v.getD (t.idxOf t[i]) 0) = _
          rw [h2, List.getD_eq_getElem?_getD, List.getElem?_eq_getElem (by omega)]
          rfl
        · rw [List.getElem?_eq_none (by omega), List.getElem?_eq_none (by omega)]
          rfl
      refine ⟨d, hD.mem_iff.mpr (mem_comp.mpr ⟨by show ((List.range rows.length).map _).length = _; simp, ?_, ?_, ?_⟩), sd⟩
      · show ((List.range rows.length).map fun p => v.getD (t.idxOf p) 0).Nodup
        refine List.Pairwise.map _ (fun a b q => q) (List.nodup_range.imp_of_mem fun {a b} ha hb hab e => ?_)
        have ha := List.mem_range.mp ha
        have hb := List.mem_range.mp hb
        have h1 := vget a ha
        have h2 := vget b hb
        rw [e] at h1
        obtain ⟨g1, e1⟩ := List.getElem?_eq_some_iff.mp h1
        obtain ⟨g2, e2⟩ := List.getElem?_eq_some_iff.mp h2
        have h3 : t.idxOf a = t.idxOf b := (List.getElem_inj l2).mp (e1.trans e2.symm)
        have h4 := (hidx a ((hmem a).mpr ha)).2
        rw [h3, (hidx b ((hmem b).mpr hb)).2] at h4
        exact hab (Option.some.inj h4).symm
      · intro x hx
        obtain ⟨p, hp, rfl⟩ := List.mem_map.mp hx
        exact l3 _ (List.mem_of_getElem? (vget p (List.mem_range.mp hp)))
      · intro j r x hj hx
        have hj' : j < rows.length := (List.getElem?_eq_some_iff.mp hj).1
        rw [dget j hj'] at hx
        cases hx
        refine l4 (t.idxOf j) r _ ?_ (vget j hj')
        rw [List.getElem?_map, (hidx j ((hmem j).mpr hj')).2]
        exact congrArg some (rowOf_eq hj)

/-! ### the numbers of open things along the dealings -/
def Pw : List Nat → List (List Nat) → Nat → List Nat → Nat → Prop
  | p :: qs, r :: rs, m, d, k => (ops r rs m).length ∣ k ∧ Pw qs rs (m - 2 ^ d.getD p 0) d k
  | _, _, _, _, _ => True
theorem pw_wd : ∀ {qs : List Nat} {rs : List (List Nat)} {m : Nat} {D : List (List Nat)} {k : Nat}, qs.length = rs.length → (∀ r ∈ rs, r.Nodup) → Sm qs rs m D → ((∀ d ∈ D, Pw qs rs m d k) ↔ Wd rs m k)
  | [], [], _, _, _, _, _, _ => ⟨fun _ => True.intro, fun _ _ _ => True.intro⟩
  | p :: qs, r :: rs, m, D, k, hl, hn, h => by
    have hr := hn r List.mem_cons_self
    have sub : ∀ e ∈ ops r rs m, ((∀ d ∈ D.filter (headIs p e.1), Pw qs rs (m - 2 ^ e.1) d k) ↔ Wd rs (m - 2 ^ e.1) k) := fun e he => by
      obtain ⟨x, c⟩ := e
      exact pw_wd (by simpa using hl) (fun r hr => hn r (List.mem_cons_of_mem _ hr)) (h.step hr (mem_ops.mp he).1)
    constructor
    · intro hd e he
      obtain ⟨d0, hd0⟩ : ∃ d, d ∈ D.filter (headIs p e.1) := by
        obtain ⟨x, c⟩ := e
        obtain ⟨h1, h2, h3⟩ := mem_ops.mp he
        have := (h.step hr h1).len
        exact List.exists_mem_of_length_pos (by dsimp only; omega)
      refine ⟨(hd d0 (List.mem_filter.mp hd0).1).1, (sub e he).mp fun d hd' => ?_⟩
      obtain ⟨g1, g2⟩ := List.mem_filter.mp hd'
      have g3 : d.getD p 0 = e.1 := of_decide_eq_true g2
      have := (hd d g1).2
      rw [g3] at this
      exact this
    · intro hw d hd
      obtain ⟨h1, h2⟩ := h.head hd
      have he : (d.getD p 0, cnt rs (m - 2 ^ d.getD p 0)) ∈ ops r rs m := mem_ops.mpr ⟨h1, rfl, h2⟩
      obtain ⟨g1, g2⟩ := hw _ he
      exact ⟨g1, (sub _ he).mpr g2 d (List.mem_filter.mpr ⟨hd, decide_eq_true rfl⟩)⟩
/-- with things below n, all numbers of open things are at most n -/
theorem wd_12 : ∀ {rs : List (List Nat)} {m : Nat}, (∀ r ∈ rs, r.Nodup ∧ ∀ x ∈ r, x < 4) → Wd rs m 12
  | [], _, _ => True.intro
  | r :: rs, m, h => fun e he => by
    obtain ⟨h1, h2⟩ := h r List.mem_cons_self
    refine ⟨?_, wd_12 fun r hr => h r (List.mem_cons_of_mem _ hr)⟩
    have h3 : (ops r rs m).length ≤ 4 := by
      unfold ops
      have := List.length_filter_le (fun e : Nat × Nat => decide (0 < e.2)) ((opn r m).map fun x => (x, cnt rs (m - 2 ^ x)))
      rw [List.length_map] at this
      exact Nat.le_trans this (opn_le h1 fun x hx _ => h2 x hx)
    have h4 : 0 < (ops r rs m).length := List.length_pos_of_mem he
    generalize (ops r rs m).length = a at *
    have : a = 1 ∨ a = 2 ∨ a = 3 ∨ a = 4 := by omega
    rcases this with rfl | rfl | rfl | rfl <;> decide
end Fo
end
section
set_option linter.all false
/-! Things with other numbers; a ring of three beside a full three. -/
namespace Fo

inductive All2 {α β : Type} (R : α → β → Prop) : List α → List β → Prop
  | nil : All2 R [] []
  | cons {a b l k} : R a b → All2 R l k → All2 R (a :: l) (b :: k)
/-- rs' is rs with the things numbered anew by f; m' is m so -/
structure Ren (f : Nat → Nat) (n : Nat) (rs' rs : List (List Nat)) (m' m : Nat) : Prop where
  rows : All2 (fun r' r => r'.Perm (r.map f) ∧ ∀ x ∈ r, x < n) rs' rs
  bits : ∀ x, x < n → m'.testBit (f x) = m.testBit x
theorem opn_ren {f : Nat → Nat} {n : Nat} {r' r : List Nat} {m' m : Nat} (h : r'.Perm (r.map f)) (hx : ∀ x ∈ r, x < n) (hb : ∀ x, x < n → m'.testBit (f x) = m.testBit x) : (opn r' m').Perm ((opn r m).map f) := by
  unfold opn
  refine (h.filter _).trans ?_
  rw [List.filter_map]
  have e : r.filter ((fun x => m'.testBit x) ∘ f) = r.filter fun x => m.testBit x := List.filter_congr fun x hx' => hb x (hx x hx')
  rw [e]
theorem Ren.step {f : Nat → Nat} {n : Nat} (inj : ∀ x y, x < n → y < n → f x = f y → x = y) {r' r : List Nat} {rs' rs : List (List Nat)} {m' m : Nat} (h : Ren f n (r' :: rs') (r :: rs) m' m) {x : Nat} (hx : x ∈ opn r m) : Ren f n rs' rs (m' - 2 ^ f x) (m - 2 ^ x) := by
  obtain ⟨h1, h2⟩ := h
  cases h1 with
  | cons a b =>
    obtain ⟨g1, g2⟩ := mem_opn.mp hx
    have hxn := a.2 x g1
    refine ⟨b, fun y hy => ?_⟩
    rw [clr (by rw [h2 x hxn]; exact g2), clr g2, h2 y hy]
    congr 1
    refine decide_eq_decide.mpr ⟨fun q e => q (by rw [e]), fun q e => q (inj y x hy hxn e)⟩
theorem Ren.cnt {f : Nat → Nat} {n : Nat} (inj : ∀ x y, x < n → y < n → f x = f y → x = y) : ∀ {rs' rs : List (List Nat)} {m' m : Nat}, Ren f n rs' rs m' m → Fo.cnt rs' m' = Fo.cnt rs m
  | [], [], _, _, _ => rfl
  | r' :: rs', r :: rs, m', m, h => by
    have h1 := h.rows
    cases h1 with
    | cons a b =>
      have hp := opn_ren a.1 a.2 h.bits
      rw [cnt_cons, cnt_cons, (hp.map _).sum_nat, List.map_map]
      refine sum_congr fun x hx => ?_
      exact Ren.cnt inj (h.step inj hx)
  | [], _ :: _, _, _, h => by have h1 := h.rows; cases h1
  | _ :: _, [], _, _, h => by have h1 := h.rows; cases h1
theorem Ren.dv {f : Nat → Nat} {n : Nat} (inj : ∀ x y, x < n → y < n → f x = f y → x = y) : ∀ {rs' rs : List (List Nat)} {m' m : Nat}, Ren f n rs' rs m' m → ∀ k, Dv rs' m' k ↔ Dv rs m k
  | [], [], _, _, _, _ => Iff.rfl
  | r' :: rs', r :: rs, m', m, h, k => by
    have hc := h.cnt inj
    have h1 := h.rows
    cases h1 with
    | cons a b =>
      have hp := opn_ren a.1 a.2 h.bits
      have hmem : ∀ x c, (x, c) ∈ ops r rs m → (f x, c) ∈ ops r' rs' m' := fun x c hx => by
        obtain ⟨g1, g2, g3⟩ := mem_ops.mp hx
        refine mem_ops.mpr ⟨hp.mem_iff.mpr (List.mem_map.mpr ⟨x, g1, rfl⟩), ?_, g3⟩
        rw [(h.step inj g1).cnt inj, g2]
      constructor
      · intro hd e he
        obtain ⟨x, c⟩ := e
        obtain ⟨q1, q2⟩ := hd _ (hmem x c he)
        dsimp only at *
        exact ⟨by rw [← hc]; exact q1, ((h.step inj (mem_ops.mp he).1).dv inj k).mp q2⟩
      · intro hd e he
        obtain ⟨y, c⟩ := e
        obtain ⟨g1, g2, g3⟩ := mem_ops.mp he
        obtain ⟨x, gx, rfl⟩ := List.mem_map.mp (hp.mem_iff.mp g1)
        have hs := h.step inj gx
        rw [hs.cnt inj] at g2
        obtain ⟨q1, q2⟩ := hd (x, c) (mem_ops.mpr ⟨gx, g2, g3⟩)
        dsimp only at *
        exact ⟨by rw [hc]; exact q1, (hs.dv inj k).mpr q2⟩
  | [], _ :: _, _, _, h, _ => by have h1 := h.rows; cases h1
  | _ :: _, [], _, _, h, _ => by have h1 := h.rows; cases h1

/-! ### all orders of some rows -/
def ins {α : Type} (x : α) : List α → List (List α)
  | [] => [[x]]
  | y :: l => (x :: y :: l) :: (ins x l).map fun k => y :: k
def perms {α : Type} : List α → List (List α)
  | [] => [[]]
  | x :: l => (perms l).flatMap fun k => ins x k
theorem mem_ins {α : Type} {x : α} : ∀ {a b : List α}, (a ++ x :: b) ∈ ins x (a ++ b)
  | [], [] => by simp [ins]
  | [], y :: b => by simp [ins]
  | z :: a, b => by
    show (z :: (a ++ x :: b)) ∈ (x :: z :: (a ++ b)) :: (ins x (a ++ b)).map fun k => z :: k
    exact List.mem_cons_of_mem _ (List.mem_map.mpr ⟨_, mem_ins, rfl⟩)
theorem mem_perms {α : Type} : ∀ {l k : List α}, k.Perm l → k ∈ perms l
  | [], k, h => by
    have : k = [] := List.perm_nil.mp h
    subst this
    simp [perms]
  | x :: l, k, h => by
    have hx : x ∈ k := h.mem_iff.mpr List.mem_cons_self
    obtain ⟨a, b, rfl⟩ := List.append_of_mem hx
    have h2 : (a ++ b).Perm l := by
      have : (x :: (a ++ b)).Perm (x :: l) := (List.perm_middle.symm).trans h
      exact (List.perm_cons x).mp this
    exact List.mem_flatMap.mpr ⟨a ++ b, mem_perms h2, mem_ins⟩
def base6 : List (List Nat) := [[0, 1], [1, 2], [0, 2], [3, 4, 5], [3, 4, 5], [3, 4, 5]]
theorem all6 : (perms base6).all (fun bs => lsd bs 63 == 6) = true := by decide +kernel
theorem six {bs : List (List Nat)} (h : bs.Perm base6) : lsd bs 63 = 6 := by
  have := List.all_eq_true.mp all6 bs (mem_perms h)
  exact eq_of_beq this
/-- the ring of three beside a full three, numbered anew -/
theorem ring_full {bs rs : List (List Nat)} {pl : List Nat} (hp : pl.Perm (List.range 6)) (hb : bs.Perm base6) (h : All2 (fun r b => r.Perm (b.map fun x => pl.getD x 0)) rs bs) : lsd rs 63 = 6 := by
  have hl : pl.length = 6 := by rw [hp.length_eq]; rfl
  have hnd : pl.Nodup := hp.nodup_iff.mpr List.nodup_range
  have hget : ∀ x, x < 6 → pl[x]? = some (pl.getD x 0) := fun x hx => by
    rw [List.getD_eq_getElem?_getD, List.getElem?_eq_getElem (by omega)]
    rfl
  have hlt : ∀ x, x < 6 → pl.getD x 0 < 6 := fun x hx => by
    have := hp.mem_iff.mp (List.mem_of_getElem? (hget x hx))
    exact List.mem_range.mp this
  have inj : ∀ x y, x < 6 → y < 6 → pl.getD x 0 = pl.getD y 0 → x = y := fun x y hx hy e => by
    obtain ⟨g1, e1⟩ := List.getElem?_eq_some_iff.mp (hget x hx)
    obtain ⟨g2, e2⟩ := List.getElem?_eq_some_iff.mp (hget y hy)
    exact (List.getElem_inj hnd).mp (e1.trans (e.trans e2.symm))
  have small : ∀ b ∈ bs, ∀ x ∈ b, x < 6 := fun b hb' x hx => by
    have h1 := hb.mem_iff.mp hb'
    have : ∀ b ∈ base6, ∀ x ∈ b, x < 6 := by decide
    exact this b h1 x hx
  have R : Ren (fun x => pl.getD x 0) 6 rs bs 63 63 := by
    refine ⟨?_, fun x hx => ?_⟩
    · clear hb
      induction h with
      | nil => exact .nil
      | cons a _ ih => exact .cons ⟨a, small _ List.mem_cons_self⟩ (ih fun b hb => small b (List.mem_cons_of_mem _ hb))
    · have e1 := whole_bit 6 (pl.getD x 0)
      have e2 := whole_bit 6 x
      have h1 : (2 ^ 6 - 1 : Nat) = 63 := rfl
      rw [h1] at e1 e2
      rw [e1, e2, decide_eq_true (hlt x hx), decide_eq_true hx]
  refine eq_of_dvd_iff fun k => ?_
  rw [lsd_dvd, R.dv inj k, ← lsd_dvd, six hb]
end Fo
end
section
set_option Elab.async false
set_option linter.all false
/-! Counting by masks of people and things. -/
namespace Fo
def bitsOf (m : Nat) : List Nat := (List.range 6).filter fun i => m.testBit i
def cntm (rows : List (List Nat)) (p t : Nat) : Nat := cnt ((bitsOf p).map (rowOf rows)) t
theorem mem_bitsOf {m i : Nat} : i ∈ bitsOf m ↔ i < 6 ∧ m.testBit i = true := by
  unfold bitsOf; rw [List.mem_filter, List.mem_range]
theorem bitsOf_nodup (m : Nat) : (bitsOf m).Nodup := List.Pairwise.filter _ List.nodup_range
theorem bitsOf_clr {m q : Nat} (hq : q < 6) (h : m.testBit q = true) : (bitsOf m).Perm (q :: bitsOf (m - 2 ^ q)) := by
  refine perm_of_nodup (bitsOf_nodup m) (List.nodup_cons.mpr ⟨fun z => ?_, bitsOf_nodup _⟩) fun x => ?_
  · have := (mem_bitsOf.mp z).2
    rw [clr h] at this
    simp at this
  · rw [List.mem_cons, mem_bitsOf, mem_bitsOf, clr h]
    by_cases e : x = q
    · subst e; simp [hq, h]
    · simp [e]
theorem bitsOf_len {m q : Nat} (hq : q < 6) (h : m.testBit q = true) : (bitsOf m).length = (bitsOf (m - 2 ^ q)).length + 1 := by
  rw [(bitsOf_clr hq h).length_eq, List.length_cons]
theorem cntm_zero (rows : List (List Nat)) (t : Nat) : cntm rows 0 t = 1 := by
  have : bitsOf 0 = [] := by decide
  unfold cntm
  rw [this]; rfl
theorem cntm_step {rows : List (List Nat)} {p q t : Nat} (hq : q < 6) (h : p.testBit q = true) {r : List Nat} (hrow : rows[q]? = some r) :
    cntm rows p t = ((opn r t).map fun x => cntm rows (p - 2 ^ q) (t - 2 ^ x)).sum := by
  unfold cntm
  rw [cnt_perm ((bitsOf_clr hq h).map (rowOf rows)), List.map_cons, cnt_cons, rowOf_eq hrow]
theorem zero_of_bits {p : Nat} (hp : p < 64) (h : bitsOf p = []) : p = 0 := by
  have : ∀ m : Fin 64, bitsOf m.val = [] → m.val = 0 := by decide +kernel
  exact this ⟨p, hp⟩ h
theorem bits_sum (ns : List Nat) (hn : ns.Nodup) (h : ∀ x ∈ ns, x < 6) : ∀ i, (ns.map (2 ^ ·)).sum.testBit i = decide (i ∈ ns) := by
  induction ns with
  | nil => intro i; simp
  | cons x ns ih =>
    obtain ⟨h1, h2⟩ := List.nodup_cons.mp hn
    intro i
    have ih := ih h2 (fun y hy => h y (List.mem_cons_of_mem _ hy))
    rw [List.map_cons, List.sum_cons]
    have hx : (ns.map (2 ^ ·)).sum.testBit x = false := by rw [ih]; exact decide_eq_false h1
    have hb : ((2 ^ x + (ns.map (2 ^ ·)).sum)).testBit x = true := by
      rw [Nat.testBit_two_pow_add_eq, hx]; rfl
    have hc := clr hb
    have e : 2 ^ x + (ns.map (2 ^ ·)).sum - 2 ^ x = (ns.map (2 ^ ·)).sum := by omega
    rw [e] at hc
    by_cases hi : i = x
    · subst hi
      rw [hb]; simp
    · have := hc i
      rw [ih] at this
      simp [hi] at this ⊢
      rw [← this]
end Fo
end
section
set_option Elab.async false
set_option linter.all false
set_option maxRecDepth 100000
set_option maxHeartbeats 4000000
/-! The text by places, what the head says of it, and short rules for calls. -/
namespace Fo
open PySem PySem.Spec PyProof.Rows L2
def top (i : Nat) : Stmt := PySem.Challenge.pw_fullorring_k92_whole_sides_of_even_drawe.main.body.getD i (.Pass ⟨0, 0, 0, 0⟩)
abbrev s_is_integer : Stmt := top 10
abbrev n_is_integer : List Str := ["thing"]
theorem sc_is_integer : FnScope n_is_integer ["thing"] (defScope s_is_integer) := ⟨rfl, rfl, rfl, by decide +kernel, rfl, by decide +kernel, by decide +kernel⟩
abbrev s_is_within : Stmt := top 11
abbrev n_is_within : List Str := ["thing", "least", "most"]
theorem sc_is_within : FnScope n_is_within ["thing", "least", "most"] (defScope s_is_within) := ⟨rfl, rfl, rfl, by decide +kernel, rfl, by decide +kernel, by decide +kernel⟩
abbrev s_are_ascending : Stmt := top 12
abbrev n_are_ascending : List Str := ["things", "one", "other"]
theorem sc_are_ascending : FnScope n_are_ascending ["things"] (defScope s_are_ascending) := ⟨rfl, rfl, rfl, by decide +kernel, rfl, by decide +kernel, by decide +kernel⟩
abbrev s_is_lot_of : Stmt := top 13
abbrev n_is_lot_of : List Str := ["thing", "many", "one"]
theorem sc_is_lot_of : FnScope n_is_lot_of ["thing", "many"] (defScope s_is_lot_of) := ⟨rfl, rfl, rfl, by decide +kernel, rfl, by decide +kernel, by decide +kernel⟩
abbrev s_is_all_of : Stmt := top 14
abbrev n_is_all_of : List Str := ["thing", "many", "one"]
theorem sc_is_all_of : FnScope n_is_all_of ["thing", "many"] (defScope s_is_all_of) := ⟨rfl, rfl, rfl, by decide +kernel, rfl, by decide +kernel, by decide +kernel⟩
abbrev s_check_number : Stmt := top 15
abbrev n_check_number : List Str := ["thing", "least", "most"]
theorem sc_check_number : FnScope n_check_number ["thing", "least", "most"] (defScope s_check_number) := ⟨rfl, rfl, rfl, by decide +kernel, rfl, by decide +kernel, by decide +kernel⟩
abbrev s_check_many : Stmt := top 16
abbrev n_check_many : List Str := ["number", "most"]
theorem sc_check_many : FnScope n_check_many ["number", "most"] (defScope s_check_many) := ⟨rfl, rfl, rfl, by decide +kernel, rfl, by decide +kernel, by decide +kernel⟩
abbrev s_common_divisor : Stmt := top 17
abbrev n_common_divisor : List Str := ["one", "other"]
theorem sc_common_divisor : FnScope n_common_divisor ["one", "other"] (defScope s_common_divisor) := ⟨rfl, rfl, rfl, by decide +kernel, rfl, by decide +kernel, by decide +kernel⟩
abbrev s_made : Stmt := top 18
abbrev n_made : List Str := ["top", "bottom", "common"]
theorem sc_made : FnScope n_made ["top", "bottom"] (defScope s_made) := ⟨rfl, rfl, rfl, by decide +kernel, rfl, by decide +kernel, by decide +kernel⟩
abbrev s_times : Stmt := top 19
abbrev n_times : List Str := ["one", "other"]
theorem sc_times : FnScope n_times ["one", "other"] (defScope s_times) := ⟨rfl, rfl, rfl, by decide +kernel, rfl, by decide +kernel, by decide +kernel⟩
abbrev s_plus : Stmt := top 20
abbrev n_plus : List Str := ["one", "other"]
theorem sc_plus : FnScope n_plus ["one", "other"] (defScope s_plus) := ⟨rfl, rfl, rfl, by decide +kernel, rfl, by decide +kernel, by decide +kernel⟩
abbrev s_Matching_init : Stmt := inClass (top 22) 0
abbrev n_Matching_init : List Str := ["self", "rows", "person"]
theorem sc_Matching_init : FnScope n_Matching_init ["self", "rows"] (defScope s_Matching_init) := ⟨rfl, rfl, rfl, by decide +kernel, rfl, by decide +kernel, by decide +kernel⟩
abbrev s_Matching_seat : Stmt := inClass (top 22) 1
abbrev n_Matching_seat : List Str := ["self", "person", "came", "waiting", "here", "thing"]
theorem sc_Matching_seat : FnScope n_Matching_seat ["self", "person"] (defScope s_Matching_seat) := ⟨rfl, rfl, rfl, by decide +kernel, rfl, by decide +kernel, by decide +kernel⟩
abbrev s_Matching_hand_on : Stmt := inClass (top 22) 2
abbrev n_Matching_hand_on : List Str := ["self", "thing", "came", "person", "here", "elder"]
theorem sc_Matching_hand_on : FnScope n_Matching_hand_on ["self", "thing", "came", "person"] (defScope s_Matching_hand_on) := ⟨rfl, rfl, rfl, by decide +kernel, rfl, by decide +kernel, by decide +kernel⟩
abbrev s_can_be_dealt : Stmt := top 23
abbrev n_can_be_dealt : List Str := ["rows"]
theorem sc_can_be_dealt : FnScope n_can_be_dealt ["rows"] (defScope s_can_be_dealt) := ⟨rfl, rfl, rfl, by decide +kernel, rfl, by decide +kernel, by decide +kernel⟩
abbrev s_check_stuck : Stmt := top 24
abbrev n_check_stuck : List Str := ["table"]
theorem sc_check_stuck : FnScope n_check_stuck ["table"] (defScope s_check_stuck) := ⟨rfl, rfl, rfl, by decide +kernel, rfl, by decide +kernel, by decide +kernel⟩
abbrev s_is_dealing : Stmt := top 25
abbrev n_is_dealing : List Str := ["table", "thing", "got", "row"]
theorem sc_is_dealing : FnScope n_is_dealing ["table", "thing"] (defScope s_is_dealing) := ⟨rfl, rfl, rfl, by decide +kernel, rfl, by decide +kernel, by decide +kernel⟩
abbrev s_Table_init : Stmt := inClass (top 28) 0
abbrev n_Table_init : List Str := ["self", "rows", "person", "row"]
theorem sc_Table_init : FnScope n_Table_init ["self", "rows"] (defScope s_Table_init) := ⟨rfl, rfl, rfl, by decide +kernel, rfl, by decide +kernel, by decide +kernel⟩
abbrev s_Table_keep : Stmt := inClass (top 28) 1
abbrev n_Table_keep : List Str := ["self", "rows"]
theorem sc_Table_keep : FnScope n_Table_keep ["self", "rows"] (defScope s_Table_keep) := ⟨rfl, rfl, rfl, by decide +kernel, rfl, by decide +kernel, by decide +kernel⟩
abbrev s_Table___eq__ : Stmt := inClass (top 28) 2
abbrev n_Table___eq__ : List Str := ["self", "other"]
theorem sc_Table___eq__ : FnScope n_Table___eq__ ["self", "other"] (defScope s_Table___eq__) := ⟨rfl, rfl, rfl, by decide +kernel, rfl, by decide +kernel, by decide +kernel⟩
abbrev s_RawTable_init : Stmt := inClass (top 29) 0
abbrev n_RawTable_init : List Str := ["self", "rows"]
theorem sc_RawTable_init : FnScope n_RawTable_init ["self", "rows"] (defScope s_RawTable_init) := ⟨rfl, rfl, rfl, by decide +kernel, rfl, by decide +kernel, by decide +kernel⟩
abbrev s_names : Stmt := top 30
abbrev n_names : List Str := ["size", "person", "thing"]
theorem sc_names : FnScope n_names ["size"] (defScope s_names) := ⟨rfl, rfl, rfl, by decide +kernel, rfl, by decide +kernel, by decide +kernel⟩
abbrev s_full : Stmt := top 31
abbrev n_full : List Str := ["size", "person"]
theorem sc_full : FnScope n_full ["size"] (defScope s_full) := ⟨rfl, rfl, rfl, by decide +kernel, rfl, by decide +kernel, by decide +kernel⟩
abbrev s_ring : Stmt := top 32
abbrev n_ring : List Str := ["size", "rows", "person", "row"]
theorem sc_ring : FnScope n_ring ["size"] (defScope s_ring) := ⟨rfl, rfl, rfl, by decide +kernel, rfl, by decide +kernel, by decide +kernel⟩
abbrev s_bits : Stmt := top 34
abbrev n_bits : List Str := ["numbers", "number"]
theorem sc_bits : FnScope n_bits ["numbers"] (defScope s_bits) := ⟨rfl, rfl, rfl, by decide +kernel, rfl, by decide +kernel, by decide +kernel⟩
abbrev s_without : Stmt := top 35
abbrev n_without : List Str := ["lot", "number"]
theorem sc_without : FnScope n_without ["lot", "number"] (defScope s_without) := ⟨rfl, rfl, rfl, by decide +kernel, rfl, by decide +kernel, by decide +kernel⟩
abbrev s_has : Stmt := top 36
abbrev n_has : List Str := ["lot", "number"]
theorem sc_has : FnScope n_has ["lot", "number"] (defScope s_has) := ⟨rfl, rfl, rfl, by decide +kernel, rfl, by decide +kernel, by decide +kernel⟩
abbrev s_least_of : Stmt := top 37
abbrev n_least_of : List Str := ["lot"]
theorem sc_least_of : FnScope n_least_of ["lot"] (defScope s_least_of) := ⟨rfl, rfl, rfl, by decide +kernel, rfl, by decide +kernel, by decide +kernel⟩
abbrev s_Counter_init : Stmt := inClass (top 38) 0
abbrev n_Counter_init : List Str := ["self", "rows"]
theorem sc_Counter_init : FnScope n_Counter_init ["self", "rows"] (defScope s_Counter_init) := ⟨rfl, rfl, rfl, by decide +kernel, rfl, by decide +kernel, by decide +kernel⟩
abbrev s_Counter_of : Stmt := inClass (top 38) 1
abbrev n_Counter_of : List Str := ["self", "people", "things", "key", "person", "rest", "one"]
theorem sc_Counter_of : FnScope n_Counter_of ["self", "people", "things"] (defScope s_Counter_of) := ⟨rfl, rfl, rfl, by decide +kernel, rfl, by decide +kernel, by decide +kernel⟩
abbrev s_Counter_among : Stmt := inClass (top 38) 2
abbrev n_Counter_among : List Str := ["self", "person", "things", "thing"]
theorem sc_Counter_among : FnScope n_Counter_among ["self", "person", "things"] (defScope s_Counter_among) := ⟨rfl, rfl, rfl, by decide +kernel, rfl, by decide +kernel, by decide +kernel⟩
abbrev s_Counter_total : Stmt := inClass (top 38) 3
abbrev n_Counter_total : List Str := ["self"]
theorem sc_Counter_total : FnScope n_Counter_total ["self"] (defScope s_Counter_total) := ⟨rfl, rfl, rfl, by decide +kernel, rfl, by decide +kernel, by decide +kernel⟩
abbrev s_many_dealings : Stmt := top 39
abbrev n_many_dealings : List Str := ["table"]
theorem sc_many_dealings : FnScope n_many_dealings ["table"] (defScope s_many_dealings) := ⟨rfl, rfl, rfl, by decide +kernel, rfl, by decide +kernel, by decide +kernel⟩
abbrev s_left_of : Stmt := top 41
abbrev n_left_of : List Str := ["standing", "people", "things", "person", "got", "thing"]
theorem sc_left_of : FnScope n_left_of ["standing"] (defScope s_left_of) := ⟨rfl, rfl, rfl, by decide +kernel, rfl, by decide +kernel, by decide +kernel⟩
abbrev s_opens : Stmt := top 42
abbrev n_opens : List Str := ["counter", "people", "things", "person", "rest", "found", "thing", "many"]
theorem sc_opens : FnScope n_opens ["counter", "people", "things", "person"] (defScope s_opens) := ⟨rfl, rfl, rfl, by decide +kernel, rfl, by decide +kernel, by decide +kernel⟩
abbrev s_after_draw : Stmt := top 43
abbrev n_after_draw : List Str := ["standing", "person", "thing"]
theorem sc_after_draw : FnScope n_after_draw ["standing", "person", "thing"] (defScope s_after_draw) := ⟨rfl, rfl, rfl, by decide +kernel, rfl, by decide +kernel, by decide +kernel⟩
abbrev s_check_turn : Stmt := top 46
abbrev n_check_turn : List Str := ["table", "thing"]
theorem sc_check_turn : FnScope n_check_turn ["table", "thing"] (defScope s_check_turn) := ⟨rfl, rfl, rfl, by decide +kernel, rfl, by decide +kernel, by decide +kernel⟩
abbrev s_check_custom : Stmt := top 47
abbrev n_check_custom : List Str := ["thing"]
theorem sc_check_custom : FnScope n_check_custom ["thing"] (defScope s_check_custom) := ⟨rfl, rfl, rfl, by decide +kernel, rfl, by decide +kernel, by decide +kernel⟩
abbrev s_shared_out : Stmt := top 48
abbrev n_shared_out : List Str := ["fractions", "many", "found", "one"]
theorem sc_shared_out : FnScope n_shared_out ["fractions", "many"] (defScope s_shared_out) := ⟨rfl, rfl, rfl, by decide +kernel, rfl, by decide +kernel, by decide +kernel⟩
abbrev s_Walk_init : Stmt := inClass (top 49) 0
abbrev n_Walk_init : List Str := ["self", "table", "turn", "custom", "place"]
theorem sc_Walk_init : FnScope n_Walk_init ["self", "table", "turn", "custom"] (defScope s_Walk_init) := ⟨rfl, rfl, rfl, by decide +kernel, rfl, by decide +kernel, by decide +kernel⟩
abbrev s_Walk_begin : Stmt := inClass (top 49) 1
abbrev n_Walk_begin : List Str := ["self"]
theorem sc_Walk_begin : FnScope n_Walk_begin ["self"] (defScope s_Walk_begin) := ⟨rfl, rfl, rfl, by decide +kernel, rfl, by decide +kernel, by decide +kernel⟩
abbrev s_Walk_is_over : Stmt := inClass (top 49) 2
abbrev n_Walk_is_over : List Str := ["self", "place"]
theorem sc_Walk_is_over : FnScope n_Walk_is_over ["self", "place"] (defScope s_Walk_is_over) := ⟨rfl, rfl, rfl, by decide +kernel, rfl, by decide +kernel, by decide +kernel⟩
abbrev s_Walk_leaves_some : Stmt := inClass (top 49) 3
abbrev n_Walk_leaves_some : List Str := ["self", "place", "things", "person"]
theorem sc_Walk_leaves_some : FnScope n_Walk_leaves_some ["self", "place", "things"] (defScope s_Walk_leaves_some) := ⟨rfl, rfl, rfl, by decide +kernel, rfl, by decide +kernel, by decide +kernel⟩
abbrev s_Walk_drawn_from : Stmt := inClass (top 49) 4
abbrev n_Walk_drawn_from : List Str := ["self", "place", "things", "person", "found", "thing", "many"]
theorem sc_Walk_drawn_from : FnScope n_Walk_drawn_from ["self", "place", "things"] (defScope s_Walk_drawn_from) := ⟨rfl, rfl, rfl, by decide +kernel, rfl, by decide +kernel, by decide +kernel⟩
abbrev s_Walk_choices : Stmt := inClass (top 49) 5
abbrev n_Walk_choices : List Str := ["self", "place", "things"]
theorem sc_Walk_choices : FnScope n_Walk_choices ["self", "place", "things"] (defScope s_Walk_choices) := ⟨rfl, rfl, rfl, by decide +kernel, rfl, by decide +kernel, by decide +kernel⟩
abbrev s_Walk_through : Stmt := inClass (top 49) 6
abbrev n_Walk_through : List Str := ["self", "place", "things", "found", "many", "onward", "thing"]
theorem sc_Walk_through : FnScope n_Walk_through ["self", "place", "things"] (defScope s_Walk_through) := ⟨rfl, rfl, rfl, by decide +kernel, rfl, by decide +kernel, by decide +kernel⟩
abbrev s_Walk_product : Stmt := inClass (top 49) 7
abbrev n_Walk_product : List Str := ["self", "dealing", "things", "found", "place", "person"]
theorem sc_Walk_product : FnScope n_Walk_product ["self", "dealing"] (defScope s_Walk_product) := ⟨rfl, rfl, rfl, by decide +kernel, rfl, by decide +kernel, by decide +kernel⟩
abbrev s_Narrowed_init : Stmt := inClass (top 50) 0
abbrev n_Narrowed_init : List Str := ["self", "walk", "forced"]
theorem sc_Narrowed_init : FnScope n_Narrowed_init ["self", "walk", "forced"] (defScope s_Narrowed_init) := ⟨rfl, rfl, rfl, by decide +kernel, rfl, by decide +kernel, by decide +kernel⟩
abbrev s_Narrowed_among : Stmt := inClass (top 50) 1
abbrev n_Narrowed_among : List Str := ["self", "place", "things", "found", "many", "person", "thing"]
theorem sc_Narrowed_among : FnScope n_Narrowed_among ["self", "place", "things"] (defScope s_Narrowed_among) := ⟨rfl, rfl, rfl, by decide +kernel, rfl, by decide +kernel, by decide +kernel⟩
abbrev s_Narrowed_through : Stmt := inClass (top 50) 2
abbrev n_Narrowed_through : List Str := ["self", "place", "things", "found", "many", "onward", "thing"]
theorem sc_Narrowed_through : FnScope n_Narrowed_through ["self", "place", "things"] (defScope s_Narrowed_through) := ⟨rfl, rfl, rfl, by decide +kernel, rfl, by decide +kernel, by decide +kernel⟩
abbrev s_Narrowed_products : Stmt := inClass (top 50) 3
abbrev n_Narrowed_products : List Str := ["self", "place", "things", "found", "many", "behind", "best", "thing", "pair"]
theorem sc_Narrowed_products : FnScope n_Narrowed_products ["self", "place", "things"] (defScope s_Narrowed_products) := ⟨rfl, rfl, rfl, by decide +kernel, rfl, by decide +kernel, by decide +kernel⟩
abbrev s_extremes : Stmt := top 51
abbrev n_extremes : List Str := ["walk", "forced"]
theorem sc_extremes : FnScope n_extremes ["walk", "forced"] (defScope s_extremes) := ⟨rfl, rfl, rfl, by decide +kernel, rfl, by decide +kernel, by decide +kernel⟩
abbrev s_check_walk : Stmt := top 52
abbrev n_check_walk : List Str := ["table", "turn", "custom"]
theorem sc_check_walk : FnScope n_check_walk ["table", "turn", "custom"] (defScope s_check_walk) := ⟨rfl, rfl, rfl, by decide +kernel, rfl, by decide +kernel, by decide +kernel⟩
abbrev s_stuck_walk : Stmt := top 53
abbrev n_stuck_walk : List Str := ["table", "turn", "custom", "walk"]
theorem sc_stuck_walk : FnScope n_stuck_walk ["table", "turn", "custom"] (defScope s_stuck_walk) := ⟨rfl, rfl, rfl, by decide +kernel, rfl, by decide +kernel, by decide +kernel⟩
abbrev s_nothing_drawn : Stmt := top 55
abbrev n_nothing_drawn : List Str := ["table"]
theorem sc_nothing_drawn : FnScope n_nothing_drawn ["table"] (defScope s_nothing_drawn) := ⟨rfl, rfl, rfl, by decide +kernel, rfl, by decide +kernel, by decide +kernel⟩
abbrev s_added : Stmt := top 61
abbrev n_added : List Str := ["found", "key", "part"]
theorem sc_added : FnScope n_added ["found", "key", "part"] (defScope s_added) := ⟨rfl, rfl, rfl, by decide +kernel, rfl, by decide +kernel, by decide +kernel⟩
abbrev s_throws : Stmt := top 62
abbrev n_throws : List Str := ["table", "sides", "pick", "standing", "person", "found", "throw", "thing", "right"]
theorem sc_throws : FnScope n_throws ["table", "sides", "pick", "standing", "person"] (defScope s_throws) := ⟨rfl, rfl, rfl, by decide +kernel, rfl, by decide +kernel, by decide +kernel⟩
abbrev s_all_chances : Stmt := top 63
abbrev n_all_chances : List Str := ["table", "turn", "sides", "pick", "layer", "done", "person", "later", "standing", "part", "thing", "share"]
theorem sc_all_chances : FnScope n_all_chances ["table", "turn", "sides", "pick"] (defScope s_all_chances) := ⟨rfl, rfl, rfl, by decide +kernel, rfl, by decide +kernel, by decide +kernel⟩
abbrev s_check_drawer : Stmt := top 64
abbrev n_check_drawer : List Str := ["table", "turn", "sides"]
theorem sc_check_drawer : FnScope n_check_drawer ["table", "turn", "sides"] (defScope s_check_drawer) := ⟨rfl, rfl, rfl, by decide +kernel, rfl, by decide +kernel, by decide +kernel⟩
abbrev s_drawer_even : Stmt := top 65
abbrev n_drawer_even : List Str := ["table", "turn", "sides", "pick", "found", "many", "thing", "part"]
theorem sc_drawer_even : FnScope n_drawer_even ["table", "turn", "sides", "pick"] (defScope s_drawer_even) := ⟨rfl, rfl, rfl, by decide +kernel, rfl, by decide +kernel, by decide +kernel⟩
abbrev s_even_sides : Stmt := top 66
abbrev n_even_sides : List Str := ["table", "turn", "counter", "layer", "found", "person", "later", "standing", "people", "things", "choices", "whole", "thing", "many", "bottom"]
theorem sc_even_sides : FnScope n_even_sides ["table", "turn"] (defScope s_even_sides) := ⟨rfl, rfl, rfl, by decide +kernel, rfl, by decide +kernel, by decide +kernel⟩
abbrev s_is_even : Stmt := top 68
abbrev n_is_even : List Str := ["table", "turn", "custom", "least", "most"]
theorem sc_is_even : FnScope n_is_even ["table", "turn", "custom"] (defScope s_is_even) := ⟨rfl, rfl, rfl, by decide +kernel, rfl, by decide +kernel, by decide +kernel⟩
abbrev s_law_pool : Stmt := top 70
abbrev n_law_pool : List Str := ["_law_script", "_law_seed", "_law_cell"]
theorem sc_law_pool : FnScope n_law_pool ["_law_script"] (defScope s_law_pool) := ⟨rfl, rfl, rfl, by decide +kernel, rfl, by decide +kernel, by decide +kernel⟩
abbrev s_law_draw : Stmt := top 71
abbrev n_law_draw : List Str := ["_law_pool_here", "_law_many", "_law_cells", "_law_digit", "_law_mixed_here"]
theorem sc_law_draw : FnScope n_law_draw ["_law_pool_here", "_law_many"] (defScope s_law_draw) := ⟨rfl, rfl, rfl, by decide +kernel, rfl, by decide +kernel, by decide +kernel⟩
abbrev s_law_mixed : Stmt := top 72
abbrev n_law_mixed : List Str := ["_law_pool_here", "_law_things", "_law_left", "_law_k"]
theorem sc_law_mixed : FnScope n_law_mixed ["_law_pool_here", "_law_things"] (defScope s_law_mixed) := ⟨rfl, rfl, rfl, by decide +kernel, rfl, by decide +kernel, by decide +kernel⟩
abbrev s_law_blocks : Stmt := top 73
abbrev n_law_blocks : List Str := ["_law_pool_here", "_law_many", "_law_rows_here", "_law_last", "_law_wide", "_law_kind", "_law_person", "_law_thing", "_law_k"]
theorem sc_law_blocks : FnScope n_law_blocks ["_law_pool_here", "_law_many"] (defScope s_law_blocks) := ⟨rfl, rfl, rfl, by decide +kernel, rfl, by decide +kernel, by decide +kernel⟩
abbrev s_law_rows : Stmt := top 74
abbrev n_law_rows : List Str := ["_law_pool_here", "_law_many", "_law_kind", "_law_own", "_law_chance", "_law_rows_here", "_law_at", "_law_places", "_law_order", "_law_k", "_law_thing"]
theorem sc_law_rows : FnScope n_law_rows ["_law_pool_here", "_law_many"] (defScope s_law_rows) := ⟨rfl, rfl, rfl, by decide +kernel, rfl, by decide +kernel, by decide +kernel⟩
abbrev s_law_all : Stmt := top 75
abbrev n_law_all : List Str := ["_law_rows_here", "_law_found", "_law_row", "_law_longer", "_law_told_here", "_law_thing"]
theorem sc_law_all : FnScope n_law_all ["_law_rows_here"] (defScope s_law_all) := ⟨rfl, rfl, rfl, by decide +kernel, rfl, by decide +kernel, by decide +kernel⟩
abbrev s_law_fits : Stmt := top 76
abbrev n_law_fits : List Str := ["_law_standing", "_law_dealing", "_law_k"]
theorem sc_law_fits : FnScope n_law_fits ["_law_standing", "_law_dealing"] (defScope s_law_fits) := ⟨rfl, rfl, rfl, by decide +kernel, rfl, by decide +kernel, by decide +kernel⟩
abbrev s_law_wide_rows : Stmt := top 77
abbrev n_law_wide_rows : List Str := ["_law_pool_here", "_law_many", "_law_rows_here", "_law_k", "_law_places", "_law_order", "_law_thing"]
theorem sc_law_wide_rows : FnScope n_law_wide_rows ["_law_pool_here", "_law_many"] (defScope s_law_wide_rows) := ⟨rfl, rfl, rfl, by decide +kernel, rfl, by decide +kernel, by decide +kernel⟩
abbrev s_law_flag : Stmt := top 78
abbrev n_law_flag : List Str := ["_law_told_here", "_law_due"]
theorem sc_law_flag : FnScope n_law_flag ["_law_told_here", "_law_due"] (defScope s_law_flag) := ⟨rfl, rfl, rfl, by decide +kernel, rfl, by decide +kernel, by decide +kernel⟩
abbrev s_law_divisor : Stmt := top 79
abbrev n_law_divisor : List Str := ["_law_one", "_law_other"]
theorem sc_law_divisor : FnScope n_law_divisor ["_law_one", "_law_other"] (defScope s_law_divisor) := ⟨rfl, rfl, rfl, by decide +kernel, rfl, by decide +kernel, by decide +kernel⟩
abbrev s_law_shares : Stmt := top 80
abbrev n_law_shares : List Str := ["_law_deals", "_law_person", "_law_found", "_law_thing", "_law_told_here"]
theorem sc_law_shares : FnScope n_law_shares ["_law_deals", "_law_person"] (defScope s_law_shares) := ⟨rfl, rfl, rfl, by decide +kernel, rfl, by decide +kernel, by decide +kernel⟩
abbrev s_law_least_sides : Stmt := top 81
abbrev n_law_least_sides : List Str := ["_law_deals", "_law_turn", "_law_layer", "_law_found", "_law_person", "_law_later", "_law_some", "_law_thing", "_law_many", "_law_bottom", "_law_told_here"]
theorem sc_law_least_sides : FnScope n_law_least_sides ["_law_deals", "_law_turn"] (defScope s_law_least_sides) := ⟨rfl, rfl, rfl, by decide +kernel, rfl, by decide +kernel, by decide +kernel⟩
abbrev s_law_part_drawer : Stmt := top 82
abbrev n_law_part_drawer : List Str := ["_law_deals", "_law_sides", "_law_pick"]
theorem sc_law_part_drawer : FnScope n_law_part_drawer ["_law_deals", "_law_sides"] (defScope s_law_part_drawer) := ⟨rfl, rfl, rfl, by decide +kernel, rfl, by decide +kernel, by decide +kernel⟩
abbrev s_law_told : Stmt := top 83
abbrev n_law_told : List Str := ["_law_table", "_law_turn", "_law_told_here", "e", "_law_flags", "_law_flag_here"]
theorem sc_law_told : FnScope n_law_told ["_law_table", "_law_turn"] (defScope s_law_told) := ⟨rfl, rfl, rfl, by decide +kernel, rfl, by decide +kernel, by decide +kernel⟩
abbrev s_law_refused : Stmt := top 84
abbrev n_law_refused : List Str := ["_law_pool_here", "_law_size", "_law_tables", "_law_dues", "_law_at", "_law_table", "_law_turn", "_law_spot", "_law_odd", "_law_wrong"]
theorem sc_law_refused : FnScope n_law_refused ["_law_pool_here", "_law_size"] (defScope s_law_refused) := ⟨rfl, rfl, rfl, by decide +kernel, rfl, by decide +kernel, by decide +kernel⟩
abbrev s_law_sides_right : Stmt := top 85
abbrev n_law_sides_right : List Str := ["_law_table", "_law_deals", "_law_turn", "_law_due", "_law_told_here"]
theorem sc_law_sides_right : FnScope n_law_sides_right ["_law_table", "_law_deals", "_law_turn"] (defScope s_law_sides_right) := ⟨rfl, rfl, rfl, by decide +kernel, rfl, by decide +kernel, by decide +kernel⟩
abbrev s_law_drawers_right : Stmt := top 86
abbrev n_law_drawers_right : List Str := ["_law_pool_here", "_law_table", "_law_deals", "_law_turn", "_law_due", "_law_sides", "_law_pick_here"]
theorem sc_law_drawers_right : FnScope n_law_drawers_right ["_law_pool_here", "_law_table", "_law_deals", "_law_turn"] (defScope s_law_drawers_right) := ⟨rfl, rfl, rfl, by decide +kernel, rfl, by decide +kernel, by decide +kernel⟩
abbrev s_law : Stmt := top 87
abbrev n_law : List Str := ["_law_script", "_law_pool_here", "_law_kind", "_law_size", "_law_rows_here", "_law_places", "_law_order", "_law_table", "_law_deals", "_law_turn", "_law_wide", "_law_told_here", "_law_left", "_law_person", "_law_many", "_law_row", "_law_thing", "_law_other"]
theorem sc_law : FnScope n_law ["_law_script"] (defScope s_law) := ⟨rfl, rfl, rfl, by decide +kernel, rfl, by decide +kernel, by decide +kernel⟩
theorem bt_len : bootBuiltins "len" = some (.builtin "len") := by decide +kernel
theorem bt_abs : bootBuiltins "abs" = some (.builtin "abs") := by decide +kernel
theorem bt_sum : bootBuiltins "sum" = some (.builtin "sum") := by decide +kernel
theorem bt_all : bootBuiltins "all" = some (.builtin "all") := by decide +kernel
theorem bt_isinstance : bootBuiltins "isinstance" = some (.builtin "isinstance") := by decide +kernel
theorem bt_sorted : bootBuiltins "sorted" = some (.builtin "sorted") := by decide +kernel
theorem bt_max : bootBuiltins "max" = some (.builtin "max") := by decide +kernel
theorem bt_min : bootBuiltins "min" = some (.builtin "min") := by decide +kernel
theorem bt_int : bootBuiltins "int" = some (.type "int") := by decide +kernel
theorem bt_tuple : bootBuiltins "tuple" = some (.type "tuple") := by decide +kernel
theorem bt_list : bootBuiltins "list" = some (.type "list") := by decide +kernel
theorem bt_str : bootBuiltins "str" = some (.type "str") := by decide +kernel
theorem bt_bool : bootBuiltins "bool" = some (.type "bool") := by decide +kernel
theorem bt_set : bootBuiltins "set" = some (.type "set") := by decide +kernel
theorem bt_range : bootBuiltins "range" = some (.type "range") := by decide +kernel
theorem bt_zip : bootBuiltins "zip" = some (.type "zip") := by decide +kernel
theorem bt_enumerate : bootBuiltins "enumerate" = some (.type "enumerate") := by decide +kernel
theorem bt_ValueError : bootBuiltins "ValueError" = some (.type "ValueError") := by decide +kernel
/-- a def of the text, there -/
abbrev FnH (K : PySem.W.Frag) (x q : Str) (st : Stmt) (f : Addr) : Prop := ∃ fd, FunD K x q (defArgs st) (defBody st) (defScope st) [] [] f fd
structure Hd (K : PySem.W.Frag) (mg : Str → Option Value) : Prop where
  g_wall : mg "_wall" = some (.ref (He.ga K "_wall"))
  g_DrawError : mg "DrawError" = some (.ref (He.ga K "DrawError"))
  g_BadTable : mg "BadTable" = some (.ref (He.ga K "BadTable"))
  g_NoNumber : mg "NoNumber" = some (.ref (He.ga K "NoNumber"))
  g_TooMany : mg "TooMany" = some (.ref (He.ga K "TooMany"))
  g_Stuck : mg "Stuck" = some (.ref (He.ga K "Stuck"))
  g_NoTurn : mg "NoTurn" = some (.ref (He.ga K "NoTurn"))
  g_NoCustom : mg "NoCustom" = some (.ref (He.ga K "NoCustom"))
  g_is_integer : mg "is_integer" = some (.ref (He.ga K "is_integer"))
  g_is_within : mg "is_within" = some (.ref (He.ga K "is_within"))
  g_are_ascending : mg "are_ascending" = some (.ref (He.ga K "are_ascending"))
  g_is_lot_of : mg "is_lot_of" = some (.ref (He.ga K "is_lot_of"))
  g_is_all_of : mg "is_all_of" = some (.ref (He.ga K "is_all_of"))
  g_check_number : mg "check_number" = some (.ref (He.ga K "check_number"))
  g_check_many : mg "check_many" = some (.ref (He.ga K "check_many"))
  g_common_divisor : mg "common_divisor" = some (.ref (He.ga K "common_divisor"))
  g_made : mg "made" = some (.ref (He.ga K "made"))
  g_times : mg "times" = some (.ref (He.ga K "times"))
  g_plus : mg "plus" = some (.ref (He.ga K "plus"))
  g_Matching : mg "Matching" = some (.ref (He.ga K "Matching"))
  g_can_be_dealt : mg "can_be_dealt" = some (.ref (He.ga K "can_be_dealt"))
  g_check_stuck : mg "check_stuck" = some (.ref (He.ga K "check_stuck"))
  g_is_dealing : mg "is_dealing" = some (.ref (He.ga K "is_dealing"))
  g_Table : mg "Table" = some (.ref (He.ga K "Table"))
  g_RawTable : mg "RawTable" = some (.ref (He.ga K "RawTable"))
  g_names : mg "names" = some (.ref (He.ga K "names"))
  g_full : mg "full" = some (.ref (He.ga K "full"))
  g_ring : mg "ring" = some (.ref (He.ga K "ring"))
  g_bits : mg "bits" = some (.ref (He.ga K "bits"))
  g_without : mg "without" = some (.ref (He.ga K "without"))
  g_has : mg "has" = some (.ref (He.ga K "has"))
  g_least_of : mg "least_of" = some (.ref (He.ga K "least_of"))
  g_Counter : mg "Counter" = some (.ref (He.ga K "Counter"))
  g_many_dealings : mg "many_dealings" = some (.ref (He.ga K "many_dealings"))
  g_left_of : mg "left_of" = some (.ref (He.ga K "left_of"))
  g_opens : mg "opens" = some (.ref (He.ga K "opens"))
  g_after_draw : mg "after_draw" = some (.ref (He.ga K "after_draw"))
  g_check_turn : mg "check_turn" = some (.ref (He.ga K "check_turn"))
  g_check_custom : mg "check_custom" = some (.ref (He.ga K "check_custom"))
  g_shared_out : mg "shared_out" = some (.ref (He.ga K "shared_out"))
  g_Walk : mg "Walk" = some (.ref (He.ga K "Walk"))
  g_Narrowed : mg "Narrowed" = some (.ref (He.ga K "Narrowed"))
  g_extremes : mg "extremes" = some (.ref (He.ga K "extremes"))
  g_check_walk : mg "check_walk" = some (.ref (He.ga K "check_walk"))
  g_stuck_walk : mg "stuck_walk" = some (.ref (He.ga K "stuck_walk"))
  g_nothing_drawn : mg "nothing_drawn" = some (.ref (He.ga K "nothing_drawn"))
  g_added : mg "added" = some (.ref (He.ga K "added"))
  g_throws : mg "throws" = some (.ref (He.ga K "throws"))
  g_all_chances : mg "all_chances" = some (.ref (He.ga K "all_chances"))
  g_check_drawer : mg "check_drawer" = some (.ref (He.ga K "check_drawer"))
  g_drawer_even : mg "drawer_even" = some (.ref (He.ga K "drawer_even"))
  g_even_sides : mg "even_sides" = some (.ref (He.ga K "even_sides"))
  g_is_even : mg "is_even" = some (.ref (He.ga K "is_even"))
  g_law_pool : mg "_law_pool" = some (.ref (He.ga K "_law_pool"))
  g_law_draw : mg "_law_draw" = some (.ref (He.ga K "_law_draw"))
  g_law_mixed : mg "_law_mixed" = some (.ref (He.ga K "_law_mixed"))
  g_law_blocks : mg "_law_blocks" = some (.ref (He.ga K "_law_blocks"))
  g_law_rows : mg "_law_rows" = some (.ref (He.ga K "_law_rows"))
  g_law_all : mg "_law_all" = some (.ref (He.ga K "_law_all"))
  g_law_fits : mg "_law_fits" = some (.ref (He.ga K "_law_fits"))
  g_law_wide_rows : mg "_law_wide_rows" = some (.ref (He.ga K "_law_wide_rows"))
  g_law_flag : mg "_law_flag" = some (.ref (He.ga K "_law_flag"))
  g_law_divisor : mg "_law_divisor" = some (.ref (He.ga K "_law_divisor"))
  g_law_shares : mg "_law_shares" = some (.ref (He.ga K "_law_shares"))
  g_law_least_sides : mg "_law_least_sides" = some (.ref (He.ga K "_law_least_sides"))
  g_law_part_drawer : mg "_law_part_drawer" = some (.ref (He.ga K "_law_part_drawer"))
  g_law_told : mg "_law_told" = some (.ref (He.ga K "_law_told"))
  g_law_refused : mg "_law_refused" = some (.ref (He.ga K "_law_refused"))
  g_law_sides_right : mg "_law_sides_right" = some (.ref (He.ga K "_law_sides_right"))
  g_law_drawers_right : mg "_law_drawers_right" = some (.ref (He.ga K "_law_drawers_right"))
  g_law : mg "law" = some (.ref (He.ga K "law"))
  d_is_integer : FnH K "is_integer" "is_integer" s_is_integer (He.ga K "is_integer")
  p_is_integer : PySem.W.keepIn K (.ref (He.ga K "is_integer")) = true
  d_is_within : FnH K "is_within" "is_within" s_is_within (He.ga K "is_within")
  p_is_within : PySem.W.keepIn K (.ref (He.ga K "is_within")) = true
  d_are_ascending : FnH K "are_ascending" "are_ascending" s_are_ascending (He.ga K "are_ascending")
  p_are_ascending : PySem.W.keepIn K (.ref (He.ga K "are_ascending")) = true
  d_is_lot_of : FnH K "is_lot_of" "is_lot_of" s_is_lot_of (He.ga K "is_lot_of")
  p_is_lot_of : PySem.W.keepIn K (.ref (He.ga K "is_lot_of")) = true
  d_is_all_of : FnH K "is_all_of" "is_all_of" s_is_all_of (He.ga K "is_all_of")
  p_is_all_of : PySem.W.keepIn K (.ref (He.ga K "is_all_of")) = true
  d_check_number : FnH K "check_number" "check_number" s_check_number (He.ga K "check_number")
  p_check_number : PySem.W.keepIn K (.ref (He.ga K "check_number")) = true
  d_check_many : FnH K "check_many" "check_many" s_check_many (He.ga K "check_many")
  p_check_many : PySem.W.keepIn K (.ref (He.ga K "check_many")) = true
  d_common_divisor : FnH K "common_divisor" "common_divisor" s_common_divisor (He.ga K "common_divisor")
  p_common_divisor : PySem.W.keepIn K (.ref (He.ga K "common_divisor")) = true
  d_made : FnH K "made" "made" s_made (He.ga K "made")
  p_made : PySem.W.keepIn K (.ref (He.ga K "made")) = true
  d_times : FnH K "times" "times" s_times (He.ga K "times")
  p_times : PySem.W.keepIn K (.ref (He.ga K "times")) = true
  d_plus : FnH K "plus" "plus" s_plus (He.ga K "plus")
  p_plus : PySem.W.keepIn K (.ref (He.ga K "plus")) = true
  d_Matching_init : FnH K "__init__" "Matching.__init__" s_Matching_init (He.ma K (He.ga K "Matching") "__init__")
  d_Matching_seat : FnH K "seat" "Matching.seat" s_Matching_seat (He.ma K (He.ga K "Matching") "seat")
  d_Matching_hand_on : FnH K "hand_on" "Matching.hand_on" s_Matching_hand_on (He.ma K (He.ga K "Matching") "hand_on")
  d_can_be_dealt : FnH K "can_be_dealt" "can_be_dealt" s_can_be_dealt (He.ga K "can_be_dealt")
  p_can_be_dealt : PySem.W.keepIn K (.ref (He.ga K "can_be_dealt")) = true
  d_check_stuck : FnH K "check_stuck" "check_stuck" s_check_stuck (He.ga K "check_stuck")
  p_check_stuck : PySem.W.keepIn K (.ref (He.ga K "check_stuck")) = true
  d_is_dealing : FnH K "is_dealing" "is_dealing" s_is_dealing (He.ga K "is_dealing")
  p_is_dealing : PySem.W.keepIn K (.ref (He.ga K "is_dealing")) = true
  d_Table_init : FnH K "__init__" "Table.__init__" s_Table_init (He.ma K (He.ga K "Table") "__init__")
  d_Table_keep : FnH K "keep" "Table.keep" s_Table_keep (He.ma K (He.ga K "Table") "keep")
  d_Table___eq__ : FnH K "__eq__" "Table.__eq__" s_Table___eq__ (He.ma K (He.ga K "Table") "__eq__")
  d_RawTable_init : FnH K "__init__" "RawTable.__init__" s_RawTable_init (He.ma K (He.ga K "RawTable") "__init__")
  d_names : FnH K "names" "names" s_names (He.ga K "names")
  p_names : PySem.W.keepIn K (.ref (He.ga K "names")) = true
  d_full : FnH K "full" "full" s_full (He.ga K "full")
  p_full : PySem.W.keepIn K (.ref (He.ga K "full")) = true
  d_ring : FnH K "ring" "ring" s_ring (He.ga K "ring")
  p_ring : PySem.W.keepIn K (.ref (He.ga K "ring")) = true
  d_bits : FnH K "bits" "bits" s_bits (He.ga K "bits")
  p_bits : PySem.W.keepIn K (.ref (He.ga K "bits")) = true
  d_without : FnH K "without" "without" s_without (He.ga K "without")
  p_without : PySem.W.keepIn K (.ref (He.ga K "without")) = true
  d_has : FnH K "has" "has" s_has (He.ga K "has")
  p_has : PySem.W.keepIn K (.ref (He.ga K "has")) = true
  d_least_of : FnH K "least_of" "least_of" s_least_of (He.ga K "least_of")
  p_least_of : PySem.W.keepIn K (.ref (He.ga K "least_of")) = true
  d_Counter_init : FnH K "__init__" "Counter.__init__" s_Counter_init (He.ma K (He.ga K "Counter") "__init__")
  d_Counter_of : FnH K "of" "Counter.of" s_Counter_of (He.ma K (He.ga K "Counter") "of")
  d_Counter_among : FnH K "among" "Counter.among" s_Counter_among (He.ma K (He.ga K "Counter") "among")
  d_Counter_total : FnH K "total" "Counter.total" s_Counter_total (He.ma K (He.ga K "Counter") "total")
  d_many_dealings : FnH K "many_dealings" "many_dealings" s_many_dealings (He.ga K "many_dealings")
  p_many_dealings : PySem.W.keepIn K (.ref (He.ga K "many_dealings")) = true
  d_left_of : FnH K "left_of" "left_of" s_left_of (He.ga K "left_of")
  p_left_of : PySem.W.keepIn K (.ref (He.ga K "left_of")) = true
  d_opens : FnH K "opens" "opens" s_opens (He.ga K "opens")
  p_opens : PySem.W.keepIn K (.ref (He.ga K "opens")) = true
  d_after_draw : FnH K "after_draw" "after_draw" s_after_draw (He.ga K "after_draw")
  p_after_draw : PySem.W.keepIn K (.ref (He.ga K "after_draw")) = true
  d_check_turn : FnH K "check_turn" "check_turn" s_check_turn (He.ga K "check_turn")
  p_check_turn : PySem.W.keepIn K (.ref (He.ga K "check_turn")) = true
  d_check_custom : FnH K "check_custom" "check_custom" s_check_custom (He.ga K "check_custom")
  p_check_custom : PySem.W.keepIn K (.ref (He.ga K "check_custom")) = true
  d_shared_out : FnH K "shared_out" "shared_out" s_shared_out (He.ga K "shared_out")
  p_shared_out : PySem.W.keepIn K (.ref (He.ga K "shared_out")) = true
  d_Walk_init : FnH K "__init__" "Walk.__init__" s_Walk_init (He.ma K (He.ga K "Walk") "__init__")
  d_Walk_begin : FnH K "begin" "Walk.begin" s_Walk_begin (He.ma K (He.ga K "Walk") "begin")
  d_Walk_is_over : FnH K "is_over" "Walk.is_over" s_Walk_is_over (He.ma K (He.ga K "Walk") "is_over")
  d_Walk_leaves_some : FnH K "leaves_some" "Walk.leaves_some" s_Walk_leaves_some (He.ma K (He.ga K "Walk") "leaves_some")
  d_Walk_drawn_from : FnH K "drawn_from" "Walk.drawn_from" s_Walk_drawn_from (He.ma K (He.ga K "Walk") "drawn_from")
  d_Walk_choices : FnH K "choices" "Walk.choices" s_Walk_choices (He.ma K (He.ga K "Walk") "choices")
  d_Walk_through : FnH K "through" "Walk.through" s_Walk_through (He.ma K (He.ga K "Walk") "through")
  d_Walk_product : FnH K "product" "Walk.product" s_Walk_product (He.ma K (He.ga K "Walk") "product")
  d_Narrowed_init : FnH K "__init__" "Narrowed.__init__" s_Narrowed_init (He.ma K (He.ga K "Narrowed") "__init__")
  d_Narrowed_among : FnH K "among" "Narrowed.among" s_Narrowed_among (He.ma K (He.ga K "Narrowed") "among")
  d_Narrowed_through : FnH K "through" "Narrowed.through" s_Narrowed_through (He.ma K (He.ga K "Narrowed") "through")
  d_Narrowed_products : FnH K "products" "Narrowed.products" s_Narrowed_products (He.ma K (He.ga K "Narrowed") "products")
  d_extremes : FnH K "extremes" "extremes" s_extremes (He.ga K "extremes")
  p_extremes : PySem.W.keepIn K (.ref (He.ga K "extremes")) = true
  d_check_walk : FnH K "check_walk" "check_walk" s_check_walk (He.ga K "check_walk")
  p_check_walk : PySem.W.keepIn K (.ref (He.ga K "check_walk")) = true
  d_stuck_walk : FnH K "stuck_walk" "stuck_walk" s_stuck_walk (He.ga K "stuck_walk")
  p_stuck_walk : PySem.W.keepIn K (.ref (He.ga K "stuck_walk")) = true
  d_nothing_drawn : FnH K "nothing_drawn" "nothing_drawn" s_nothing_drawn (He.ga K "nothing_drawn")
  p_nothing_drawn : PySem.W.keepIn K (.ref (He.ga K "nothing_drawn")) = true
  d_added : FnH K "added" "added" s_added (He.ga K "added")
  p_added : PySem.W.keepIn K (.ref (He.ga K "added")) = true
  d_throws : FnH K "throws" "throws" s_throws (He.ga K "throws")
  p_throws : PySem.W.keepIn K (.ref (He.ga K "throws")) = true
  d_all_chances : FnH K "all_chances" "all_chances" s_all_chances (He.ga K "all_chances")
  p_all_chances : PySem.W.keepIn K (.ref (He.ga K "all_chances")) = true
  d_check_drawer : FnH K "check_drawer" "check_drawer" s_check_drawer (He.ga K "check_drawer")
  p_check_drawer : PySem.W.keepIn K (.ref (He.ga K "check_drawer")) = true
  d_drawer_even : FnH K "drawer_even" "drawer_even" s_drawer_even (He.ga K "drawer_even")
  p_drawer_even : PySem.W.keepIn K (.ref (He.ga K "drawer_even")) = true
  d_even_sides : FnH K "even_sides" "even_sides" s_even_sides (He.ga K "even_sides")
  p_even_sides : PySem.W.keepIn K (.ref (He.ga K "even_sides")) = true
  d_is_even : FnH K "is_even" "is_even" s_is_even (He.ga K "is_even")
  p_is_even : PySem.W.keepIn K (.ref (He.ga K "is_even")) = true
  d_law_pool : FnH K "_law_pool" "_law_pool" s_law_pool (He.ga K "_law_pool")
  p_law_pool : PySem.W.keepIn K (.ref (He.ga K "_law_pool")) = true
  d_law_draw : FnH K "_law_draw" "_law_draw" s_law_draw (He.ga K "_law_draw")
  p_law_draw : PySem.W.keepIn K (.ref (He.ga K "_law_draw")) = true
  d_law_mixed : FnH K "_law_mixed" "_law_mixed" s_law_mixed (He.ga K "_law_mixed")
  p_law_mixed : PySem.W.keepIn K (.ref (He.ga K "_law_mixed")) = true
  d_law_blocks : FnH K "_law_blocks" "_law_blocks" s_law_blocks (He.ga K "_law_blocks")
  p_law_blocks : PySem.W.keepIn K (.ref (He.ga K "_law_blocks")) = true
  d_law_rows : FnH K "_law_rows" "_law_rows" s_law_rows (He.ga K "_law_rows")
  p_law_rows : PySem.W.keepIn K (.ref (He.ga K "_law_rows")) = true
  d_law_all : FnH K "_law_all" "_law_all" s_law_all (He.ga K "_law_all")
  p_law_all : PySem.W.keepIn K (.ref (He.ga K "_law_all")) = true
  d_law_fits : FnH K "_law_fits" "_law_fits" s_law_fits (He.ga K "_law_fits")
  p_law_fits : PySem.W.keepIn K (.ref (He.ga K "_law_fits")) = true
  d_law_wide_rows : FnH K "_law_wide_rows" "_law_wide_rows" s_law_wide_rows (He.ga K "_law_wide_rows")
  p_law_wide_rows : PySem.W.keepIn K (.ref (He.ga K "_law_wide_rows")) = true
  d_law_flag : FnH K "_law_flag" "_law_flag" s_law_flag (He.ga K "_law_flag")
  p_law_flag : PySem.W.keepIn K (.ref (He.ga K "_law_flag")) = true
  d_law_divisor : FnH K "_law_divisor" "_law_divisor" s_law_divisor (He.ga K "_law_divisor")
  p_law_divisor : PySem.W.keepIn K (.ref (He.ga K "_law_divisor")) = true
  d_law_shares : FnH K "_law_shares" "_law_shares" s_law_shares (He.ga K "_law_shares")
  p_law_shares : PySem.W.keepIn K (.ref (He.ga K "_law_shares")) = true
  d_law_least_sides : FnH K "_law_least_sides" "_law_least_sides" s_law_least_sides (He.ga K "_law_least_sides")
  p_law_least_sides : PySem.W.keepIn K (.ref (He.ga K "_law_least_sides")) = true
  d_law_part_drawer : FnH K "_law_part_drawer" "_law_part_drawer" s_law_part_drawer (He.ga K "_law_part_drawer")
  p_law_part_drawer : PySem.W.keepIn K (.ref (He.ga K "_law_part_drawer")) = true
  d_law_told : FnH K "_law_told" "_law_told" s_law_told (He.ga K "_law_told")
  p_law_told : PySem.W.keepIn K (.ref (He.ga K "_law_told")) = true
  d_law_refused : FnH K "_law_refused" "_law_refused" s_law_refused (He.ga K "_law_refused")
  p_law_refused : PySem.W.keepIn K (.ref (He.ga K "_law_refused")) = true
  d_law_sides_right : FnH K "_law_sides_right" "_law_sides_right" s_law_sides_right (He.ga K "_law_sides_right")
  p_law_sides_right : PySem.W.keepIn K (.ref (He.ga K "_law_sides_right")) = true
  d_law_drawers_right : FnH K "_law_drawers_right" "_law_drawers_right" s_law_drawers_right (He.ga K "_law_drawers_right")
  p_law_drawers_right : PySem.W.keepIn K (.ref (He.ga K "_law_drawers_right")) = true
  d_law : FnH K "law" "law" s_law (He.ga K "law")
  p_law : PySem.W.keepIn K (.ref (He.ga K "law")) = true
  c_Matching : Cls K (He.ga K "Matching")
  mk_Matching : Mk K (He.ga K "Matching") (He.ma K (He.ga K "Matching") "__init__")
  n_Matching_rows : NoAttr K (He.ga K "Matching") "rows"
  n_Matching_of : NoAttr K (He.ga K "Matching") "of"
  n_Matching_owner : NoAttr K (He.ga K "Matching") "owner"
  n_Matching_left : NoAttr K (He.ga K "Matching") "left"
  m_Matching_seat : Meth K (He.ga K "Matching") "seat" (He.ma K (He.ga K "Matching") "seat")
  m_Matching_hand_on : Meth K (He.ga K "Matching") "hand_on" (He.ma K (He.ga K "Matching") "hand_on")
  c_Table : Cls K (He.ga K "Table")
  mk_Table : Mk K (He.ga K "Table") (He.ma K (He.ga K "Table") "__init__")
  n_Table_rows : NoAttr K (He.ga K "Table") "rows"
  n_Table_size : NoAttr K (He.ga K "Table") "size"
  m_Table_keep : Meth K (He.ga K "Table") "keep" (He.ma K (He.ga K "Table") "keep")
  c_RawTable : Cls K (He.ga K "RawTable")
  mk_RawTable : Mk K (He.ga K "RawTable") (He.ma K (He.ga K "RawTable") "__init__")
  n_RawTable_rows : NoAttr K (He.ga K "RawTable") "rows"
  n_RawTable_size : NoAttr K (He.ga K "RawTable") "size"
  m_RawTable_keep : Meth K (He.ga K "RawTable") "keep" (He.ma K (He.ga K "RawTable") "keep")
  c_Counter : Cls K (He.ga K "Counter")
  mk_Counter : Mk K (He.ga K "Counter") (He.ma K (He.ga K "Counter") "__init__")
  n_Counter_rows : NoAttr K (He.ga K "Counter") "rows"
  n_Counter_whole : NoAttr K (He.ga K "Counter") "whole"
  n_Counter_known : NoAttr K (He.ga K "Counter") "known"
  m_Counter_of : Meth K (He.ga K "Counter") "of" (He.ma K (He.ga K "Counter") "of")
  m_Counter_among : Meth K (He.ga K "Counter") "among" (He.ma K (He.ga K "Counter") "among")
  m_Counter_total : Meth K (He.ga K "Counter") "total" (He.ma K (He.ga K "Counter") "total")
  c_Walk : Cls K (He.ga K "Walk")
  mk_Walk : Mk K (He.ga K "Walk") (He.ma K (He.ga K "Walk") "__init__")
  n_Walk_counter : NoAttr K (He.ga K "Walk") "counter"
  n_Walk_turn : NoAttr K (He.ga K "Walk") "turn"
  n_Walk_custom : NoAttr K (He.ga K "Walk") "custom"
  n_Walk_waiting : NoAttr K (He.ga K "Walk") "waiting"
  n_Walk_kept : NoAttr K (He.ga K "Walk") "kept"
  n_Walk_all_through : NoAttr K (He.ga K "Walk") "all_through"
  m_Walk_begin : Meth K (He.ga K "Walk") "begin" (He.ma K (He.ga K "Walk") "begin")
  m_Walk_is_over : Meth K (He.ga K "Walk") "is_over" (He.ma K (He.ga K "Walk") "is_over")
  m_Walk_drawn_from : Meth K (He.ga K "Walk") "drawn_from" (He.ma K (He.ga K "Walk") "drawn_from")
  m_Walk_choices : Meth K (He.ga K "Walk") "choices" (He.ma K (He.ga K "Walk") "choices")
  c_Narrowed : Cls K (He.ga K "Narrowed")
  mk_Narrowed : Mk K (He.ga K "Narrowed") (He.ma K (He.ga K "Narrowed") "__init__")
  n_Narrowed_walk : NoAttr K (He.ga K "Narrowed") "walk"
  n_Narrowed_forced : NoAttr K (He.ga K "Narrowed") "forced"
  n_Narrowed_known : NoAttr K (He.ga K "Narrowed") "known"
  m_Narrowed_among : Meth K (He.ga K "Narrowed") "among" (He.ma K (He.ga K "Narrowed") "among")
  m_Narrowed_products : Meth K (He.ga K "Narrowed") "products" (He.ma K (He.ga K "Narrowed") "products")
  d_RawTable_keep : FnH K "keep" "Table.keep" s_Table_keep (He.ma K (He.ga K "RawTable") "keep")
  k_MOST_PEOPLE_tables : ∃ t, mg "MOST_PEOPLE_tables" = some (.int 12 t)
  k_MOST_SIDES : ∃ t, mg "MOST_SIDES" = some (.int 12 t)
  k_MOST_PEOPLE_strangers : ∃ t, mg "MOST_PEOPLE_strangers" = some (.int 6 t)
  k_MOST_EVEN : ∃ t, mg "MOST_EVEN" = some (.int 5000 t)
  k_STUCK : ∃ t, mg "STUCK" = some (.str "stuck" t)
  g_CUSTOMS : mg "CUSTOMS" = some (.ref (He.ga K "CUSTOMS"))
  f_len : mg "len" = none
  f_abs : mg "abs" = none
  f_sum : mg "sum" = none
  f_all : mg "all" = none
  f_isinstance : mg "isinstance" = none
  f_sorted : mg "sorted" = none
  f_max : mg "max" = none
  f_min : mg "min" = none
  f_int : mg "int" = none
  f_tuple : mg "tuple" = none
  f_list : mg "list" = none
  f_str : mg "str" = none
  f_bool : mg "bool" = none
  f_set : mg "set" = none
  f_range : mg "range" = none
  f_zip : mg "zip" = none
  f_enumerate : mg "enumerate" = none
  f_ValueError : mg "ValueError" = none

/-! ### calls -/
section
variable {P : Program} {w : World} {K : PySem.W.Frag} {mg : Str → Option Value} {base : Heap}
/-- a def of the module that keeps a promise -/
structure Fn (P : Program) (w : World) (K : PySem.W.Frag) (mg : Str → Option Value) (base : Heap) (CX : CXT) (k : Nat) (x : Str) (sp : Sp) : Prop where
  gl : mg x = some (.ref (He.ga K x))
  kp : PySem.W.keepIn K (.ref (He.ga K x)) = true
  ok : ∃ fd ps, FnOk P w K mg base CX k (He.ga K x) fd ps sp ∧ Binds K fd ps []
/-- a method -/
structure Md (P : Program) (w : World) (K : PySem.W.Frag) (mg : Str → Option Value) (base : Heap) (CX : CXT) (k : Nat) (C m : Str) (sp : Sp) : Prop where
  cl : Cls K (He.ga K C)
  me : Meth K (He.ga K C) m (He.ma K (He.ga K C) m)
  ok : ∃ fd ps, FnOk P w K mg base CX k (He.ma K (He.ga K C) m) fd ps sp ∧ Binds K fd ps []
/-- a class that is made by its own __init__ -/
structure Cn (P : Program) (w : World) (K : PySem.W.Frag) (mg : Str → Option Value) (base : Heap) (CX : CXT) (k : Nat) (C : Str) (sp : Sp) : Prop where
  gl : mg C = some (.ref (He.ga K C))
  mkr : Mk K (He.ga K C) (He.ma K (He.ga K C) "__init__")
  ok : ∃ fd ps, FnOk P w K mg base CX k (He.ma K (He.ga K C) "__init__") fd ps sp ∧ Binds K fd ps []
end
section
variable {X : Cx} {CX : CXT} {k : Nat} {sp : Sp} {E : XK} {x C m : Str} {p pos apos : Pos} {e o : Expr} {es : List Expr} {ta : TE} {t : TA}
theorem pe_fn (D : Fn X.prog X.w X.K X.mg X.base CX k x sp) (hr : Room k X.A) (hg : Gl X x) (hx : Passes CX X E) (ha : PA X (e :: es) t) (hdb : (x == ("__debug__" : Str)) = false := by decide) (he : starEach (e :: es) X.env = (false, eval e X.env) :: starEach es X.env := by rfl)
    (hpl : (backTo pos (starEach es X.env)).any (·.1) = false := by rfl) : PE X (.Call (.Name x p) (e :: es) [] pos) (tCall sp [] E t) := by
  obtain ⟨fd, ps, F, b⟩ := D.ok
  exact pe_call F hr hg D.gl D.kp b .nil hx ha hdb he hpl
theorem pe_md {pl : Sem Bool} (D : Md X.prog X.w X.K X.mg X.base CX k C m sp) (hr : Room k X.A) (hx : Passes CX X E) (ho : PE X o ta) (ha : PA X (e :: es) t)
    (hst : starEach (e :: es) X.env = (false, eval e X.env) :: starEach es X.env := by rfl) (hpl : (backTo pos (starEach es X.env)).any (·.1) = false := by rfl)
    (ht : eval (.Call (.Attribute o m apos) (e :: es) [] pos) X.env = (do
      let ov ← eval o X.env
      standAt apos.atName
      let (f, first) ← holding [ov] (getMethod ov m pl)
      callWith pos f first (backTo pos (starEach (e :: es) X.env)) (backToKw pos (keywordEach [] X.env))) := by rfl) :
    PE X (.Call (.Attribute o m apos) (e :: es) [] pos) (tMeth (He.ga X.K C) m sp [] E ta t) := by
  obtain ⟨fd, ps, F, b⟩ := D.ok
  exact pe_meth ho D.cl D.me F hr b .nil hx ha hst hpl ht
theorem pe_md0 {pl : Sem Bool} (D : Md X.prog X.w X.K X.mg X.base CX k C m sp) (hr : Room k X.A) (hx : Passes CX X E) (ho : PE X o ta)
    (ht : eval (.Call (.Attribute o m apos) [] [] pos) X.env = (do
      let ov ← eval o X.env
      standAt apos.atName
      let (f, first) ← holding [ov] (getMethod ov m pl)
      callWith pos f first (backTo pos (starEach [] X.env)) (backToKw pos (keywordEach [] X.env))) := by rfl) :
    PE X (.Call (.Attribute o m apos) [] [] pos) (tMeth (He.ga X.K C) m sp [] E ta tNil) := by
  obtain ⟨fd, ps, F, b⟩ := D.ok
  exact pe_meth0 ho D.cl D.me F hr b .nil hx ht
theorem pe_mkc (D : Cn X.prog X.w X.K X.mg X.base CX k C sp) (hr : Room (k + 1) X.A) (hg : Gl X C) (hx : Passes CX X E) (ha : PA X (e :: es) t) (hdb : (C == ("__debug__" : Str)) = false := by decide) (he : starEach (e :: es) X.env = (false, eval e X.env) :: starEach es X.env := by rfl)
    (hpl : (backTo pos (starEach es X.env)).any (·.1) = false := by rfl) : PE X (.Call (.Name C p) (e :: es) [] pos) (tMake (He.ga X.K C) sp [] E t) := by
  obtain ⟨fd, ps, F, b⟩ := D.ok
  exact pe_make D.mkr F hr hg D.gl b .nil hx ha hdb he hpl
/-- a module's int, a module's text -/
theorem pe_gc {i : Int} (hg : Gl X x) (hm : ∃ t, X.mg x = some (.int i t)) (hd : (x == ("__debug__" : Str)) = false := by decide) : PE X (.Name x pos) (tC (.int i)) := by
  obtain ⟨t, hm⟩ := hm
  exact pe_glob hg hm ⟨t, rfl⟩ hd
theorem pe_gs {z : Str} (hg : Gl X x) (hm : ∃ t, X.mg x = some (.str z t)) (hd : (x == ("__debug__" : Str)) = false := by decide) : PE X (.Name x pos) (tC (.str z)) := by
  obtain ⟨t, hm⟩ := hm
  exact pe_glob hg hm ⟨t, rfl⟩ hd
end
end Fo
end
section
set_option Elab.async false
set_option linter.all false
set_option maxRecDepth 100000
set_option maxHeartbeats 4000000
/-! Rules that the layer lacks: enumerate and sorted of a tuple, zip of tuples in a comprehension, sorted of tuples of numbers. -/
namespace Fo
open PySem PySem.Spec PyProof.Rows L2

theorem Same.new {H : Hp} {p : Addr} {o : HO} (h : H p = none) : Same H (upd H p o) := fun b u e => by
  rw [upd_ne (ne_of_none e h)]
  exact e
theorem Same.mut {H H' : Hp} {p : Addr} {o : HO} (e : Same H H') (h : H p = none) : Same H (upd H' p o) := fun b u q => by
  rw [upd_ne (ne_of_none q h)]
  exact e b u q
theorem Same.sqt {K : PySem.W.Frag} {H H' : Hp} {a : Addr} {xs : List V} (e : Same H H') (h : SqT K H a xs) : SqT K H' a xs := by
  rcases h with (h | ⟨o, h⟩) | h
  · exact .inl (.inl (e _ _ h))
  · exact .inl (.inr ⟨o, e _ _ h⟩)
  · exact .inr h

/-! ### zip of two tuples -/
theorem walk_zipT {K : PySem.W.Frag} {a b : Addr} {xs ys : List V} {n : Nat} (hn : n = min xs.length ys.length) : Walk (RZ.ItzT K a b) n (fun H => SqT K H a xs ∧ SqT K H b ys) (YPair (fun i => xs[i]?) (fun i => ys[i]?)) := by
  refine ⟨fun i H hi q => ⟨xs, ys, xs[i]'(by omega), ys[i]'(by omega), q.1, q.2, by simp, by simp⟩, fun H q => ⟨xs, ys, q.1, q.2, by omega⟩, fun i H v H' hi q y => ?_⟩
  obtain ⟨T, x, z, e1, e2, e3, e4, e5⟩ := y
  exact ⟨T, x, z, e1, e2, e3, e4 _ q.1, e5 _ q.2⟩

/-! ### enumerate of a tuple -/
set_option maxHeartbeats 8000000 in
theorem meets_enum1 {v : Value} {o : Obj} {G : Heap → Prop} (B : Begins v o G) :
    Meets (Builtin.«enumerate.__new__» ⟨[.type "enumerate", v], []⟩) (fun _ R s => G s.heap ∧
      R (.ok (.ret (.ref (s.heap.push o).objs.size))) { s with heap := (s.heap.push o).push { cls := .type "enumerate", data := .fields #[.none, .bool false, .ref s.heap.objs.size, rawInt 0, .none, .none] } }) :=
  .of_wp fun prog w A R s hyp => by
    obtain ⟨g1, hyp⟩ := hyp
    obtain ⟨hp, ge, dr, tk, os⟩ := s
    have sub := sub_enumerate
    have it1 : ∀ {A' : Around} {E : Value → Shared → Prop} {Q : Value → Shared → Prop}, Q (.ref hp.objs.size) ⟨hp.push o, ge, dr, tk, os⟩ → wpAny (model prog w) A' (pyIter v) Q E ⟨hp, ge, dr, tk, os⟩ :=
      fun z => B.iter prog w _ _ ⟨hp, ge, dr, tk, os⟩ _ g1 z
    wp_walk using it1
    refine wpAny_stack_any fun st => wpAny_pure ?_
    split
    · rename_i c _ _ _ _ _
      cases (c == Value.type "enumerate") <;> (wp_walk using it1; exact ⟨_, rfl, hyp⟩)
    · wp_walk using it1
      exact ⟨_, rfl, hyp⟩
theorem enum_of {prog : Program} {w : World} {A : Around} {E : Value → Shared → Prop} {s : Shared} {v : Value} {o : Obj} {G : Heap → Prop} {Q : Value → Shared → Prop} (B : Begins v o G) (g : G s.heap)
    (h : ∀ h', IsEnum h' (s.heap.objs.size + 1) s.heap.objs.size 0 .none → h'.get? s.heap.objs.size = some o →
      (∀ b u, s.heap.get? b = some u → h'.get? b = some u) → Q (.ref (s.heap.objs.size + 1)) { s with heap := h' }) :
    wpAny (model prog w) A (call (.type "enumerate") [v]) Q E s := by
  have z1 : (s.heap.push o).objs.size = s.heap.objs.size + 1 := Heap.size_push ..
  have he := Heap.get?_push_size (s.heap.push o) (o := { cls := .type "enumerate", data := .fields #[.none, .bool false, .ref s.heap.objs.size, rawInt 0, .none, .none] }) rfl
  rw [z1] at he
  refine callType_new F.called_enumerate (by decide) (F.typeCall_enumerate_1 _) (F.newCall_enumerate_1 _) (fun obj => F.args_object_init_2 obj _) F.entry_enumerate_new (meets_enum1 B) ⟨g, ?_⟩
  show _ ∧ _
  rw [z1]
  exact ⟨⟨_, he, rfl⟩, h _ he (Heap.get?_push_of_some _ (Heap.get?_push_size _ B.free)) fun b u q => Heap.get?_push_of_some _ (Heap.get?_push_of_some _ q)⟩
/-- the tuple at a, each item in a new pair with its place -/
def IteT (K : PySem.W.Frag) (a : Addr) : It :=
  ⟨fun i H => ∃ (xs : List V) (x : V), SqT K H a xs ∧ xs[i]? = some x,
    fun i H v H' => ∃ T x, v = .ref T ∧ H T = none ∧ H' = upd H T (.tup [.int (i : Nat), x]) ∧ ∀ xs, SqT K H a xs → xs[i]? = some x,
    fun i H => ∃ xs : List V, SqT K H a xs ∧ xs.length = i⟩
def EnSt (it a e : Addr) (i : Nat) (h : Heap) : Prop := (∃ old, IsEnum h e it (i : Int) old) ∧ h.IsTupleIter it a i
theorem turn_enumT {P : Program} {w : World} {K : PySem.W.Frag} {elts : List Expr} {kk : Nat} {tpos : Pos} {a e it : Addr} (nai : a ≠ it) (nae : e ≠ a) (nei : e ≠ it) :
    Turn P w K (.Tuple elts kk tpos) (IteT K a) [e, it] e (EnSt it a e) where
  mem := List.mem_cons_self
  obj := fun i h st b hb => by
    obtain ⟨⟨old, he⟩, ⟨o, ho, hc, hd⟩⟩ := st
    rcases List.mem_cons.mp hb with rfl | hb
    · exact ⟨_, he, fun v q => nomatch q⟩
    · rw [List.mem_singleton.mp hb]
      exact ⟨o, ho, fun v q => by rw [hd] at q; cases q⟩
  keep := fun i h h' st k => by
    obtain ⟨⟨old, he⟩, hi⟩ := st
    exact ⟨⟨old, k e List.mem_cons_self _ he⟩, hi.at fun o q => k it (List.mem_cons_of_mem _ List.mem_cons_self) o q⟩
  item := by
    intro X hP hw hK hc i pins s σ H E I hf st hg
    subst hP hw hK
    obtain ⟨xs, x, hq, hx⟩ := hg
    obtain ⟨its, rv, tp, hz⟩ := I.tuple hq
    obtain ⟨u, hu, ru⟩ := rv.get hx
    have D := WalksT.enumerateD (Draws.tuple (prog := X.prog) (w := X.w) (A := X.A.in1) (I.ok.hd hc) it a nai its.toArray) e nei (by simp [nei, nae]) List.mem_cons_self
    have hi : i < its.toArray.size := by
      rw [List.size_toArray]
      exact (List.getElem?_eq_some_iff.mp hu).1
    refine D.item i s _ _ hi ⟨st.1, st.2, tp⟩ fun T vals h' tk pv hle tT mid hk => ?_
    obtain ⟨t, y, hy, rfl⟩ := pv
    have ey : y = u := by
      have h1 : its.toArray[i]? = some u := by simpa using hu
      exact Option.some.inj (hy.symm.trans h1)
    subst ey
    refine ⟨_, rfl, D.go elts kk tpos i T { s with heap := h', toks := tk } _ _ mid fun h'' st'' hk2 => ?_⟩
    have nT := D.apart i T h' mid
    have tT2 : IsTup h'' T #[.int i t, y] := by
      obtain ⟨o, ho, r⟩ := tT
      exact ⟨o, hk2 T o nT ho, r⟩
    have hH : H T = none := I.hok.fresh hle
    refine ⟨.ref T, upd H T (.tup [.int (i : Nat), x]), ?_, rfl, ⟨T, x, rfl, hH, rfl, fun ys hy' => by rw [I.tuple_inj hy' hq]; exact hx⟩, ⟨st''.1, st''.2.1⟩, fun b hb => ?_⟩
    · exact I.turnedNew (ch := [e, it]) (fun b o hb q => hk2 b o hb (hk b o hb q)) hf hle ⟨by show 2 ≤ sizeLine; decide, [.int i t, y], .cons ⟨_, rfl⟩ (.cons ru .nil), tT2⟩
    · have hlt : b < s.heap.objs.size := by
        obtain ⟨⟨old, he⟩, ⟨o, ho, _⟩⟩ := st
        rcases List.mem_cons.mp hb with rfl | hb
        · exact Heap.lt_size he
        · rw [List.mem_singleton.mp hb]; exact Heap.lt_size ho
      rw [upd_ne (Nat.ne_of_lt (Nat.lt_of_lt_of_le hlt hle))]
      exact (hf b hb).1
  done := by
    intro X hP hw hK hc i pins s σ H E I hf st hg
    subst hP hw hK
    obtain ⟨xs, hq, hx⟩ := hg
    obtain ⟨its, rv, tp, hz⟩ := I.tuple hq
    have D := WalksT.enumerateD (Draws.tuple (prog := X.prog) (w := X.w) (A := X.A.in1) (I.ok.hd hc) it a nai its.toArray) e nei (by simp [nei, nae]) List.mem_cons_self
    have ei : i = its.toArray.size := by rw [List.size_toArray, ← rv.length, hx]
    refine D.done s _ _ (ei ▸ ⟨st.1, st.2, tp⟩) fun h' tk hk => ⟨rfl, I.turnedL (ch := [e, it]) hk hf⟩
  self := fun A i s Q E st h => by
    obtain ⟨⟨old, he⟩, _⟩ := st
    exact wpAny_pyIter_enum he h
def iEnumT (K : PySem.W.Frag) (ta : TA) : TI := fun σ H R => ta σ H fun vs H1 => ∃ a xs, vs = [.ref a] ∧ SqT K H1 a xs ∧ R (IteT K a) H1
theorem pi_enumT {X : Cx} {e : Expr} {ta : TA} {p pos tpos : Pos} {elts : List Expr} {kk : Nat} (hg : Gl X "enumerate") (hm : X.mg "enumerate" = none) (ha : PA X [e] ta) (hs : starEach [e] X.env = [(false, eval e X.env)] := by rfl) :
    PI X (.Tuple elts kk tpos) (.Call (.Name "enumerate" p) [e] [] pos) (iEnumT X.K ta) := by
  refine ⟨fun pins s σ H R I h => Call_ (ld_blt I hg hm boot_enumerate (PyProof.Rows.callWith_type1 (thn (ha.run pos pins s σ H _ I h) fun us s1 fin => ?_) hs rfl))⟩
  obtain ⟨vs, H1, I1, rv1, a, xs, rfl, hq, q⟩ := fin
  rw [Vals.ref1 rv1]
  obtain ⟨its, rv, tp, hz⟩ := I1.tuple hq
  have hla : a < s1.heap.objs.size := tp.lt
  refine enum_of (begins_tuple a its.toArray) tp fun h' he hit hk => wpAny_pyIter_enum he ?_
  have I2 : Inv X pins σ H1 { s1 with heap := h' } := I1.kept (t' := s1.toks) hk
  refine ⟨s1.heap.objs.size + 1, [s1.heap.objs.size + 1, s1.heap.objs.size], _, _, H1, rfl, I2, turn_enumT (Nat.ne_of_lt hla) (Nat.ne_of_gt (Nat.lt_succ_of_lt hla)) (Nat.succ_ne_self _), ⟨⟨.none, he⟩, ⟨_, hit, rfl, rfl⟩⟩, fun b hb => ?_, q⟩
  have hle : s1.heap.objs.size ≤ b := by
    rcases List.mem_cons.mp hb with rfl | hb
    · exact Nat.le_succ _
    · rw [List.mem_singleton.mp hb]; exact Nat.le_refl _
  exact I1.fpOk hle (I1.hok.fresh hle)
theorem walk_enumT {K : PySem.W.Frag} {a : Addr} {xs : List V} : Walk (IteT K a) xs.length (fun H => SqT K H a xs) (YPair (fun i => some (.int (i : Nat))) (fun i => xs[i]?)) := by
  refine ⟨fun i H hi q => ⟨xs, xs[i], q, by simp⟩, fun H q => ⟨xs, q, rfl⟩, fun i H v H' hi q y => ?_⟩
  obtain ⟨T, x, e1, e2, e3, e4⟩ := y
  exact ⟨T, _, x, e1, e2, e3, rfl, e4 _ q⟩

/-! ### sorted of a tuple of whole numbers -/
theorem collect_tup {prog : Program} {w : World} {A : Around} {E : Value → Shared → Prop} {s : Shared} {l : Addr} {vs : List Value} {Q : List Value → Shared → Prop} (hl : IsTup s.heap l vs.toArray) (hz : vs.length ≤ sizeLine)
    (h : Q vs { s with heap := (s.heap.push (seqObj "list" #[] 0)).update s.heap.objs.size (Obj.mapSeq (· ++ vs.toArray)) }) :
    wpAny (model prog w) A (collect (.ref l)) Q E s := by
  obtain ⟨o, ho, hc, n, hd⟩ := id hl
  have hol : (s.heap.push (seqObj "list" #[] 0)).get? l = some o := Heap.get?_push_of_some _ ho
  have hon : (s.heap.push (seqObj "list" #[] 0)).get? s.heap.objs.size = some (seqObj "list" #[] 0) := Heap.get?_push_size _ rfl
  unfold collect
  refine wpAny_bind (wpAny_runValue (codeAny_builtin entry_proto_collect' ?_))
  show wpAny _ _ (do again (.builtin "list.__iadd__" ⟨[← newList [], .ref l], []⟩)) _ _ s
  refine wpAny_bind (wpAny_newList (wpAny_pure ⟨Code.quiet_builtin _ (by decide +kernel), codeAny_builtin entry_list_iadd' ?_⟩))
  show wpAny _ _ (Builtin.List.listExtendWith (.ref s.heap.objs.size) (.ref l) (.ref s.heap.objs.size)) _ _ { s with heap := s.heap.push (seqObj "list" #[] 0) }
  unfold Builtin.List.listExtendWith
  refine wpAny_bind (wpAny_typeOf (T := "tuple") ⟨o, hol, hc⟩ ?_)
  have tt : (Value.type "tuple" == Value.type "tuple") = true := by rfl
  rw [if_pos (by rw [tt]; simp)]
  refine wpAny_bind (listItems_at hol hd ?_)
  refine wpAny_bind (listItems_at (xs := #[]) (n := 0) hon rfl ?_)
  rw [if_neg (by simp)]
  refine wpAny_bind (listUpdate_at (xs := #[]) (n := 0) hon rfl ?_ (Nat.zero_le _) (by show (#[] ++ vs.toArray).size ≤ sizeLine + 1; simp only [Array.size_append, List.size_toArray, List.length_nil]; omega))
  refine wpAny_pure ?_
  show wpAny (model prog w) A (do
      let ob ← load s.heap.objs.size
      match ob.data with
      | .seq its _ => pure its.toList
      | _ => unsupported "internal:collect") Q E { s with heap := (s.heap.push (seqObj "list" #[] 0)).update s.heap.objs.size (Obj.mapSeq (· ++ vs.toArray)) }
  refine wpAny_bind (wpAny_load (get?_update_seq hon _) ?_)
  show wpAny _ _ (pure ((#[] : Array Value) ++ vs.toArray).toList) Q E _
  rw [show ((#[] : Array Value) ++ vs.toArray).toList = vs by simp]
  exact wpAny_pure h
theorem sorted_tupI {prog : Program} {w : World} {A : Around} {E : Value → Shared → Prop} {s : Shared} {l : Addr} {vs : List Value} {ns : List Int} {Q : Value → Shared → Prop} (hl : IsTup s.heap l vs.toArray) (hI : IntsAre vs ns) (h64 : vs.length < 64)
    (h : ∀ (out : Array Value) (ns' : List Int), IntsAre out.toList ns' → ns'.Perm ns → ns'.Pairwise (· ≤ ·) → Q (.ref (s.heap.objs.size + 1)) { s with heap := sortedAll s.heap vs out }) :
    wpAny (model prog w) A (call (.builtin "sorted") [.ref l]) Q E s := by
  have z64 : vs.length ≤ sizeLine := by rw [sizeLine_eq]; omega
  have hz : ((s.heap.push (seqObj "list" #[] 0)).update s.heap.objs.size (Obj.mapSeq (· ++ vs.toArray))).objs.size = s.heap.objs.size + 1 := by
    rw [Heap.size_update, size_push']
  refine Calls.call_function_entry kind_sorted plain_sorted entry_sorted (args_sorted1 _) ?_
  unfold Builtin.«sorted»
  refine wpAny_bind (m := checkCount "sorted" 1 1 _) (wpAny_pure (wpAny_bind (collect_tup hl z64 (wpAny_bind (wpAny_newList ?_ z64)))))
  have hoL : (((s.heap.push (seqObj "list" #[] 0)).update s.heap.objs.size (Obj.mapSeq (· ++ vs.toArray))).push (seqObj "list" vs.toArray 0)).get? (s.heap.objs.size + 1) = some (seqObj "list" vs.toArray 0) := by
    rw [← hz]; exact Heap.get?_push_size _ rfl
  show wpAny _ _ _ _ _ { s with heap := ((s.heap.push (seqObj "list" #[] 0)).update s.heap.objs.size (Obj.mapSeq (· ++ vs.toArray))).push (seqObj "list" vs.toArray 0) }
  rw [hz]
  refine wpAny_bind (wpAny_holding (wpAny_call_entry slot_list_sort ⟨_, hoL, rfl⟩ entry_list_sort (list_sort_tree hoL hI h64 fun out ns' a1 a2 a3 => ⟨_, rfl, ?_⟩) (args_list_sort _)))
  exact wpAny_pure ⟨_, rfl, h out ns' a1 a2 a3⟩
def rSortedTI (K : PySem.W.Frag) : List V → Hp → VK → Prop := fun vs H Q => ∃ (a : Addr) (ns : List Int), vs = [V.ref a] ∧ SqT K H a (ns.map V.int) ∧ ns.length < 64 ∧
  ∀ (ns' : List Int) (p : Addr), ns'.Perm ns → ns'.Pairwise (· ≤ ·) → H p = none → Q (.ref p) (upd H p (.lst (ns'.map V.int)))
theorem cr_sortedTI {X : Cx} : CallR X (.builtin "sorted") (rSortedTI X.K) := by
  intro pins s σ H vs us Q I r h
  obtain ⟨a, ns, rfl, hs, h64, q⟩ := h
  obtain ⟨its, rv, hl, hz⟩ := I.tuple hs
  rw [Vals.ref1 r]
  have hlen : its.length = ns.length := by rw [← rv.length, List.length_map]
  refine sorted_tupI hl rv.ints (by omega) fun out ns' a1 a2 a3 => ?_
  obtain ⟨ep, he⟩ := PyProof.Rows.sortedAll_at s.heap its out
  have hl2 : (ns'.map V.int).length ≤ sizeLine := by rw [List.length_map, a2.length_eq, sizeLine_eq]; omega
  have hf : H (s.heap.objs.size + 1) = none := I.hok.fresh (Nat.le_succ _)
  exact ⟨.ref _, _, I.laid (o := .lst (ns'.map V.int)) (t' := s.toks) (fun _ _ => PyProof.Rows.sortedAll_old) (Nat.le_succ _) ⟨hl2, out.toList, ep, vals_of_ints a1, by simpa using he⟩, rfl, q ns' _ a2 a3 hf⟩
end Fo
end
section
set_option Elab.async false
set_option linter.all false
set_option maxRecDepth 100000
set_option maxHeartbeats 8000000
/-! set(a list of numbers) and len of it; sorted of a list of tuples of numbers; a tuple turned round; a tuple repeated. -/
namespace Fo
open PySem PySem.Spec PyProof.Rows L2

abbrev set0 (w : World) : Obj := { cls := .type "set", dict := none, data := .set #[] 0 (.fresh 0 0 (!w.params.followText "set-order")) }
section
variable {P : Program} {w : World} {A : Around} {E : Value → Shared → Prop} {s : Shared}
/-- the set that stands new at h's end is filled out of the list at l -/
theorem fill_set {h : Heap} {l : Addr} {items : Array Value} {ns : List Int} {Q : Fin → Shared → Prop} {g : Array GenState} {d : Drawn} {tk : Nat} {os : OsState} (hh : A.handled = none) (hl : h.IsList l items) (hit : IntsAre items.toList ns) (hb : ns.length + 1 < scanBound)
    (fin : ∀ (h' : Heap) (tk' c : Nat), SetR w h' h.objs.size (fun j => decide (j ∈ ns)) c → c ≤ ns.length → (∀ b o, h.get? b = some o → h'.get? b = some o) → Q (.done (.ret .none)) ⟨h', g, d, tk', os⟩) :
    wpAny (model P w) A (Builtin.«set.__init__» ⟨[.ref h.objs.size, .ref l], []⟩) Q E ⟨h.push (set0 w), g, d, tk, os⟩ := by
  have lenI : items.size = ns.length := by
    rw [← Array.length_toList]
    exact IntsAre.length hit
  have stand : (h.push (set0 w)).get? h.objs.size = some (set0 w) := Heap.get?_push_size _ rfl
  obtain ⟨⟨lc, ld, lt, ls⟩, lo, lcls, ln, ldat⟩ := id hl
  simp only at lcls ldat
  subst lcls ldat
  have lo2 : (h.push (set0 w)).get? l = some { cls := .type "list", dict := ld, data := .seq items ln, slots := ls } := Heap.get?_push_of_some _ lo
  have hl2 : (h.push (set0 w)).IsList l items := ⟨_, lo2, rfl, ln, rfl⟩
  have below : l < h.objs.size := Heap.lt_size lo
  have sz : (h.push (set0 w)).objs.size = h.objs.size + 1 := Heap.size_push ..
  have s1 := F.sub_list_set
  have s2 := F.sub_list_frozenset
  have notD : (Value.type "list" == Value.type "dict") = false := by decide
  have vals : ∀ (i : Nat) (v : Value), items[i]? = some v → ∃ k t, ns[i]? = some k ∧ v = .int k t := fun i v hv => by
    have lt : i < ns.length := by rw [← lenI]; exact (Array.getElem?_eq_some_iff.mp hv).1
    obtain ⟨t, e⟩ := PyProof.Rows.IntsAre.int_at hit i v (by rw [Array.getElem?_toList]; exact hv)
    rw [List.getD_eq_getElem?_getD, List.getElem?_eq_getElem lt] at e
    exact ⟨ns[i], t, List.getElem?_eq_getElem lt, e⟩
  unfold Builtin.«set.__init__» noKeywords Builtin.Frozenset.updateFrom
  generalize keepI : pyIter = it1
  wp_walk
  subst keepI
  refine wpAny_pyIter_list hl2 (wpAny_bind (wpAny_runValue ?_))
  have apart : l ≠ (h.push (set0 w)).objs.size := by rw [sz]; exact Nat.ne_of_lt (Nat.lt_succ_of_lt below)
  have calm : A.in1.handled = none := by simp [hh]
  refine set_update_ints ((Walks.list calm _ l apart items).toS) h.objs.size ?_ ns lenI hb vals (items.size - 0) 0 _ (by omega) (Nat.zero_le _) ?_ ⟨0, Nat.le_refl 0, ?_⟩ fun s' c mv hc hS => ?_
  · rw [sz]
    simp only [List.mem_cons, List.not_mem_nil, or_false, not_or]
    exact ⟨Nat.ne_of_lt (Nat.lt_succ_self _), Nat.ne_of_gt below⟩
  · exact ⟨⟨_, Heap.get?_push_size _ rfl, rfl, rfl⟩, hl2.push _⟩
  · exact setR_new_at (w := w) (Heap.get?_push_of_some _ stand)
  · obtain ⟨h', g2, d2, tk2, os2⟩ := s'
    obtain rfl : g2 = g := mv.gens
    obtain rfl : d2 = d := mv.drawn
    obtain rfl : os2 = os := mv.os
    refine wpAny_pure ?_
    show wpAny _ _ (ret Value.none) _ _ _
    refine wpAny_pure (fin h' tk2 c hS (by omega) fun b o e => ?_)
    have bl : b < h.objs.size := Heap.lt_size e
    refine mv.heap b o ?_ (Heap.get?_push_of_some _ (Heap.get?_push_of_some _ e))
    rw [sz]
    simp only [List.mem_cons, List.not_mem_nil, or_false, not_or]
    exact ⟨Nat.ne_of_lt bl, Nat.ne_of_lt (Nat.lt_succ_of_lt bl)⟩
/-- set(a list of whole numbers) -/
theorem set_listI {l : Addr} {items : Array Value} {ns : List Int} {Q : Value → Shared → Prop} (hh : A.handled = none) (hl : s.heap.IsList l items) (hit : IntsAre items.toList ns) (hb : ns.length + 1 < scanBound)
    (fin : ∀ (h' : Heap) (tk c : Nat), SetR w h' s.heap.objs.size (fun j => decide (j ∈ ns)) c → c ≤ ns.length → (∀ b o, s.heap.get? b = some o → h'.get? b = some o) → Q (.ref s.heap.objs.size) { s with heap := h', toks := tk }) :
    wpAny (model P w) A (call (.type "set") [.ref l]) Q E s := by
  obtain ⟨h, g, d, tk, os⟩ := s
  have mro := F.called_set.mro
  obtain ⟨c, tl, hmro⟩ := mro
  have made1 := F.called_set.made
  have sub1 := F.called_set.sub
  have nt := F.called_set.notType
  have cc := F.called_set.canCreate
  have tc := F.typeCall_set_1 (.ref l)
  refine wpAny_call (codeAny_of_tree ?_)
  show wpAny _ _ (callAny (.type "set") _) _ _ _
  refine wpAny_pure ⟨Code.quiet_builtin _ (by decide +kernel), codeAny_builtin F.entry_type_call ?_⟩
  rw [Around.under_plain (weight_type_call_type "set" [.ref l] []) rfl]
  repeat (any_goals (first | assumption | wp_step))
  refine codeAny_mono (code_set_led1 (.ref l) (E := E) (Q₁ := fun ob s1 => ob = .ref h.objs.size ∧ s1 = ⟨h.push (set0 w), g, d, tk, os⟩) ⟨rfl, rfl⟩) fun r s1 hr => ?_
  cases r with
  | error e => exact hr
  | ok fl => cases fl with
    | ret ob =>
      obtain ⟨rfl, rfl⟩ := hr
      have ty : Shared.TypeIs ⟨h.push (set0 w), g, d, tk, os⟩ (.ref h.objs.size) "set" := ⟨_, Heap.get?_push_size _ rfl, rfl⟩
      have li := F.called_set.init.lookup
      have bi := F.called_set.init.bind (.ref h.objs.size)
      repeat (any_goals (first | assumption | wp_step))
      refine codeAny_mono (codeAny_call_builtin (R := wants (fun r s2 => r = .none ∧ ∃ h' tk' c, s2 = ⟨h', g, d, tk', os⟩ ∧ SetR w h' h.objs.size (fun j => decide (j ∈ ns)) c ∧ c ≤ ns.length ∧ (∀ b o, h.get? b = some o → h'.get? b = some o)) E) F.called_set.init.plain F.entry_set_init (check_set_init_1 ty ?_)) fun r2 s2 hr2 => ?_
      · exact fill_set (by simp [hh]) hl hit hb fun h' tk' c a1 a2 a3 => ⟨rfl, h', tk', c, rfl, a1, a2, a3⟩
      · cases r2 with
        | error e => exact hr2
        | ok fl2 => cases fl2 with
          | ret v =>
            obtain ⟨rfl, h', tk', c, rfl, a1, a2, a3⟩ := hr2
            repeat (any_goals (first | assumption | wp_step))
            exact fin h' tk' c a1 a2 a3
          | _ => exact hr2.elim
    | _ => exact hr.elim
end
def rSetL (K : PySem.W.Frag) (w : World) : List V → Hp → VK → Prop := fun vs H Q => ∃ (a : Addr) (ns : List Int), vs = [V.ref a] ∧ SqL K H a (ns.map V.int) ∧ ns.length ≤ 1000 ∧
  ∀ (p : Addr) (c : Nat), c ≤ ns.length → H p = none → Q (.ref p) (upd H p (SetO w p (fun j => decide (j ∈ ns)) c))
theorem cr_setL {X : Cx} (hc : X.calm = true) : CallR X (.type "set") (rSetL X.K X.w) := by
  intro pins s σ H vs us Q I r h
  obtain ⟨a, ns, rfl, hs, hn, q⟩ := h
  obtain ⟨its, rv, hl, hz⟩ := I.list hs
  rw [Vals.ref1 r]
  refine set_listI (I.ok.hd hc) hl.isList rv.ints (by unfold scanBound; omega) fun h' tk c a1 a2 a3 => ?_
  have hf : H s.heap.objs.size = none := I.hok.fresh (Nat.le_refl _)
  exact ⟨.ref _, _, I.laid (t' := tk) a3 (Nat.le_refl _) (setO_new a1), rfl, q _ c a2 hf⟩
/-- len(a set of numbers): as many as it has, told by any list of them each once -/
def rLenSet (w : World) : List V → Hp → VK → Prop := fun vs H Q => ∃ (a : Addr) (S : Int → Bool) (c : Nat), vs = [V.ref a] ∧ H a = some (SetO w a S c) ∧
  ((∀ us : List Int, us.Nodup → (∀ k, k ∈ us ↔ S k = true) → us.length = c) → Q (.int (c : Nat)) H)
theorem cr_lenSet {X : Cx} : CallR X (.builtin "len") (rLenSet X.w) := by
  intro pins s σ H vs us Q I r h
  obtain ⟨a, S, c, rfl, ha, q⟩ := h
  obtain ⟨o, es, ep, t, ho, hx, hd, g, nd, hm, hb, hf, hn, _⟩ := setO_get I ha
  rw [Vals.ref1 r]
  refine call_len_set ho hx hd hf (by unfold scanBound at hb; omega) ⟨.int (c : Nat), H, I.tok _, ⟨_, by rw [hn]⟩, q fun us hu hk => ?_⟩
  have h1 : us.Perm (es.toList.map keyOf) := perm_of_nodup hu nd fun k => (hk k).trans (hm k)
  rw [h1.length_eq, List.length_map, Array.length_toList, hn]

/-! ### sorted of a list of tuples of whole numbers, any number of them -/
def rSortedTs (K : PySem.W.Frag) : List V → Hp → VK → Prop := fun vs H Q => ∃ (a : Addr) (L : List (Addr × List Int)), vs = [V.ref a] ∧ SqL K H a (L.map fun b => V.ref b.1) ∧ (∀ b ∈ L, H b.1 = some (.tup (b.2.map V.int)) ∧ b.2 ≠ []) ∧
  ∀ (L' : List (Addr × List Int)) (p : Addr), L'.Perm L → H p = none → Q (.ref p) (upd H p (.lst (L'.map fun b => V.ref b.1)))
theorem reads_ints {h : Heap} : ∀ {us : List Value} {ns : List Int}, IntsAre us ns → ReadsAll h us (ns.map PyData.int) []
  | _, _, .nil => .nil
  | _, _, .cons n t r => .cons (.int n t) (reads_ints r)
theorem each_refs : ∀ L : List (Addr × List Int), PySem.W.EachIs (fun v (b : Addr × List Int) => v = Value.ref b.1) (L.map fun b => Value.ref b.1) L
  | [] => .nil
  | _ :: L => .cons rfl (each_refs L)
theorem refs_each : ∀ {out : List Value} {L : List (Addr × List Int)}, PySem.W.EachIs (fun v (b : Addr × List Int) => v = Value.ref b.1) out L → out = L.map fun b => Value.ref b.1
  | _, _, .nil => rfl
  | _, _, .cons h t => by rw [h, refs_each t]; rfl
theorem cr_sortedTs {X : Cx} (hu : X.A.units + 64 < cLine) : CallR X (.builtin "sorted") (rSortedTs X.K) := by
  intro pins s σ H vs us Q I r h
  obtain ⟨a, L, rfl, hs, hL, q⟩ := h
  obtain ⟨its, rv, hl, hz⟩ := I.list hs
  rw [Vals.ref1 r]
  have eits : its = L.map fun b => Value.ref b.1 := by
    have h1 : Vals ((L.map (·.1)).map V.ref) its := by rw [List.map_map]; exact rv
    rw [refs_at h1, List.map_map]
    rfl
  subst eits
  have hd : ∀ b : Addr × List Int, (PyData.tuple (b.2.map .int)).depth ≤ 1 := fun b => by
    rw [PyData.depth, PySem.W.depth_ints]
    exact Nat.le_refl _
  have er : PySem.W.EachIs (fun v (b : Addr × List Int) => ∃ as, Reads s.heap v (PyData.tuple (b.2.map .int)) as) (L.map fun b => Value.ref b.1) L := by
    clear q rv hl hz hs
    induction L with
    | nil => exact .nil
    | cons b L ih =>
      refine .cons ?_ (ih fun c hc => hL c (List.mem_cons_of_mem _ hc))
      obtain ⟨_, its, r1, o, ho, hc, n, hdat⟩ := I.hok b.1 _ (hL b List.mem_cons_self).1
      exact ⟨[], .tuple ho hc hdat (by simpa using reads_ints r1.ints)⟩
  refine PySem.W.sorted_data (enc := fun b : Addr × List Int => PyData.tuple (b.2.map .int)) hl.isList (each_refs L) er ?_ (.inl ?_) (by simpa using hz) (fun b _ => by have := hd b; omega) fun out hlen eo => ?_
  · refine PySem.W.AllAlike.of fun b b' => ?_
    show PySem.W.alike (.tuple _) (.tuple _) = true
    rw [PySem.W.alike]
    exact PySem.W.alike_ints _ _
  · intro d hd'
    obtain ⟨b, hb, rfl⟩ := List.mem_map.mp hd'
    obtain ⟨_, hne⟩ := hL b hb
    cases e : b.2 with
    | nil => exact absurd e hne
    | cons x r => exact ⟨_, _, rfl⟩
  · obtain ⟨ep, he⟩ := PyProof.Rows.sortedAll_at s.heap (L.map fun b => Value.ref b.1) (List.toArray out)
    have eout := refs_each eo
    subst eout
    have hp := List.mergeSort_perm L (PySem.W.dataLe false fun b : Addr × List Int => PyData.tuple (b.2.map .int))
    have hf : H (s.heap.objs.size + 1) = none := I.hok.fresh (Nat.le_succ _)
    refine ⟨.ref _, _, I.laid (o := .lst ((L.mergeSort (PySem.W.dataLe false fun b : Addr × List Int => PyData.tuple (b.2.map .int))).map fun b => V.ref b.1)) (t' := s.toks) (fun _ _ => PyProof.Rows.sortedAll_old) (Nat.le_succ _) ⟨?_, _, ep, ?_, he⟩, rfl, q _ _ hp hf⟩
    · rw [List.length_map, hp.length_eq]; simpa using hz
    · generalize L.mergeSort _ = M
      induction M with
      | nil => exact .nil
      | cons b M ih => exact .cons rfl ih
end Fo
end
section
set_option Elab.async false
set_option linter.all false
set_option maxRecDepth 100000
set_option maxHeartbeats 8000000
/-! A tuple turned round; a tuple once. -/
namespace Fo
open PySem PySem.Spec PyProof.Rows L2

theorem adjust_back (n : Nat) : Builtin.Slice.sliceAdjust none none (-1) (n : Int) = ((n : Int) - 1, -1) := by
  unfold Builtin.Slice.sliceAdjust
  simp
theorem places_back (n : Nat) : Builtin.Slice.slicePlaces ((n : Int) - 1) (-1) (-1) = n := by
  unfold Builtin.Slice.slicePlaces
  have h1 : ¬ (-1 : Int) > 0 := by omega
  rw [if_neg h1]
  by_cases h : n = 0
  · subst h; decide
  · rw [if_pos (by omega)]
    have e : ((n : Int) - 1 - -1 - 1) / (- -1) + 1 = n := by
      rw [show (- -1 : Int) = 1 by decide, Int.ediv_one]
      omega
    rw [e]
    simp
theorem pick_back (xs : List Value) : ((List.range xs.length).filterMap fun (m : Nat) => xs.toArray[((xs.length : Int) - 1 + (m : Int) * -1).toNat]?) = xs.reverse := by
  have e : (fun (m : Nat) => xs.toArray[((xs.length : Int) - 1 + (m : Int) * -1).toNat]?) = fun m => xs[xs.length - 1 - m]? := by
    funext m
    have h1 : ((xs.length : Int) - 1 + (m : Int) * -1).toNat = xs.length - 1 - m := by omega
    rw [h1]
    simp
  rw [e]
  apply List.ext_getElem?
  intro i
  have all : ∀ k, k ≤ xs.length → (List.range k).filterMap (fun m => xs[xs.length - 1 - m]?) = (List.range k).map fun m => xs.getD (xs.length - 1 - m) .none := by
    intro k
    induction k with
    | zero => intro _; rfl
    | succ k ih =>
      intro hk
      rw [List.range_succ, List.filterMap_append, List.map_append, ih (by omega)]
      congr 1
      have hlt : xs.length - 1 - k < xs.length := by omega
      simp [List.filterMap_cons, List.getElem?_eq_getElem hlt, List.getD_eq_getElem?_getD]
  rw [all _ (Nat.le_refl _), List.getElem?_map]
  by_cases hi : i < xs.length
  · rw [List.getElem?_range hi, List.getElem?_reverse hi, Option.map_some, List.getD_eq_getElem?_getD, List.getElem?_eq_getElem (by omega)]
    rfl
  · rw [List.getElem?_eq_none (by simpa using hi), List.getElem?_eq_none (by simpa using hi)]
    rfl
section
variable {prog : Program} {w : World} {A : Around} {E : Value → Shared → Prop} {s : Shared}
theorem getItem_tup_back {t sl : Addr} {xs : List Value} {vl vu vs : Value} {Q : Value → Shared → Prop} (ht : IsTup s.heap t xs.toArray) (hs : s.heap.IsSliceOf sl vl vu vs) (pl : IsPart vl none) (pu : IsPart vu none) (ps : IsPart vs (some (-1))) (hz : xs.length ≤ sizeLine)
    (h : Q (.ref s.heap.objs.size) { s with heap := s.heap.push { cls := .type "tuple", data := .seq xs.reverse.toArray } }) : wpAny (model prog w) A (getItem (.ref t) (.ref sl)) Q E s := by
  obtain ⟨ob, obs, obc, obd⟩ := id hs
  unfold getItem
  try with_reducible refine wpAny_holding ?_
  first | refine wpAny_bind (wpAny_pure ?_) | skip
  refine wpAny_bind (wpAny_sequenceKey ht.typeIs (by decide) ?_)
  refine wpAny_bind (wpAny_callSpecial?_slot (name := Str.ofString "__getitem__") ht.typeIs PyProof.Rows.slot_tuple_getitem
    (wpAny_call_entry PyProof.Rows.slot_tuple_getitem ht.typeIs entry_tuple_getitem ?_ (args_tuple_getitem _ _)))
  show wpAny _ _ (Builtin.Tuple.tupleItemsOf (.ref t) >>= _) _ _ s
  refine wpAny_bind (tupleItemsOf_ ht ?_)
  refine wpAny_bind (wpAny_typeOf ⟨ob, obs, obc⟩ ?_)
  rw [if_pos (by decide)]
  refine wpAny_bind ?_
  unfold Builtin.Slice.sliceApplied Builtin.Slice.sliceFields
  refine wpAny_bind (wpAny_bind (wpAny_field obs obd (x := vl) rfl (wpAny_bind (wpAny_field obs obd (x := vu) rfl (wpAny_bind (wpAny_field obs obd (x := vs) rfl (wpAny_pure ?_)))))))
  refine wpAny_bind (HT.slicePart_ ps ?_)
  show wpAny _ _ (if ((-1 : Int) == 0) = true then _ else _) _ _ s
  rw [if_neg (by decide)]
  refine wpAny_bind (HT.slicePart_ pl (wpAny_bind (HT.slicePart_ pu (wpAny_bind (wpAny_pure ?_)))))
  have e1 : (xs.toArray.size : Int) = (xs.length : Int) := by simp
  show wpAny _ _ (match Builtin.Slice.sliceAdjust none none (-1) (xs.toArray.size : Int) with | (lo, hi) => pure (lo, (-1 : Int), Builtin.Slice.slicePlaces lo hi (-1))) _ _ s
  rw [e1, adjust_back]
  show wpAny _ _ (pure ((xs.length : Int) - 1, (-1 : Int), Builtin.Slice.slicePlaces ((xs.length : Int) - 1) (-1) (-1))) _ _ s
  rw [places_back]
  refine wpAny_pure ?_
  have no : ¬ ((((xs.length : Int) - 1) == 0 && (-1 : Int) == 1 && xs.length == xs.toArray.size) = true) := by simp
  show wpAny _ _ (if (((xs.length : Int) - 1) == 0 && (-1 : Int) == 1 && xs.length == xs.toArray.size) = true then _ else _) _ _ s
  rw [if_neg no, pick_back]
  have tk : sizeOk (.seq xs.reverse.toArray) := by
    show xs.reverse.toArray.size ≤ sizeLine
    rw [List.size_toArray, List.length_reverse]
    exact hz
  first
    | exact wpAny_bind (m := Builtin.Tuple.tupleExact _) (wpAny_newObj_type (wpAny_pure ⟨_, rfl, wpAny_pure h⟩) tk)
    | exact wpAny_bind (m := Builtin.Tuple.tupleExact _) (wpAny_newObj_type (wpAny_bind (wpAny_pure (wpAny_pure ⟨_, rfl, wpAny_pure h⟩))) tk)
    | exact wpAny_bind (wpAny_bind (m := Builtin.Tuple.tupleExact _) (wpAny_newObj_type (wpAny_pure (wpAny_pure ⟨_, rfl, wpAny_pure h⟩)) tk))
theorem tup_once (l : Addr) (items : Array Value) (n : Nat) (dd : Option Addr) (sl : Array (Option Value)) (u : Tok) (c1 : (items.isEmpty || (1 : Int) == 1) = true) :
    Meets (Builtin.«tuple.__mul__» ⟨[.ref l, .int 1 u], []⟩) (fun _ R s => s.heap.get? l = some { cls := .type "tuple", dict := dd, data := .seq items n, slots := sl } ∧ R (.ok (.ret (.ref l))) s) :=
  .of_wp fun prog w A R s hyp => by
    obtain ⟨hp, g, d, tk, os⟩ := s
    obtain ⟨ho, hyp⟩ := hyp
    have f1 := AutoSeq1.idx_int
    wp_walk using wpAny_loadPart' ho
    repeat (first
      | (refine wpAny_ite_true (decide_eq_true c1) ?_; wp_walk using wpAny_loadPart' ho)
      | (refine wpAny_ite_false (decide_eq_false (by decide)) ?_; wp_walk using wpAny_loadPart' ho))
    all_goals exact ⟨_, rfl, hyp⟩
end
section
variable {X : Cx}
/-- t[::-1] -/
def tRevT (te : TE) : TE := fun σ H Q => te σ H fun x H1 => ∃ a xs, x = .ref a ∧ H1 a = some (.tup xs) ∧ ∀ p, H1 p = none → Q (.ref p) (upd H1 p (.tup xs.reverse))
theorem pe_revT {e : Expr} {te : TE} {k : Nat} {p1 p2 p3 pos : Pos} (he : PE X e te) : PE X (.Subscript e (.Slice none none (some (.UnaryOp .USub (.Constant (.int 1) k p1) p2)) p3) pos) (tRevT te) := by
  refine ⟨fun pins s σ H Q I h => Subscript_ (thn (he.run pins s σ H _ I h) fun v s1 fin => ?_)⟩
  obtain ⟨x, H1, I1, r1, a, xs, rfl, hx, q⟩ := fin
  cases r1
  have minus : PO X (some (.UnaryOp .USub (.Constant (.int 1) k p1) p2)) (tPart (tUn (rU fun i => .int (-i)) (tC (.int 1)))) := po_some (pe_un un_neg pe_int)
  refine wpAny_Slice (thn (po_none.run pins s1 σ H1 (fun o H2 => o = none ∧ H2 = H1) I1 ⟨rfl, rfl⟩) fun vl s2 f2 => ?_)
  obtain ⟨_, _, I2, pl, rfl, rfl⟩ := f2
  refine thn (po_none.run pins s2 σ _ (fun o H3 => o = none ∧ H3 = _) I2 ⟨rfl, rfl⟩) fun vu s3 f3 => ?_
  obtain ⟨_, _, I3, pu, rfl, rfl⟩ := f3
  refine thn (minus.run pins s3 σ _ (fun o H4 => o = some (-1) ∧ H4 = _) I3 ⟨1, rfl, -1, rfl, rfl, rfl⟩) fun vs s4 f4 => ?_
  obtain ⟨_, H4, I4, ps, rfl, rfl⟩ := f4
  have I5 : Inv X pins σ H4 { s4 with heap := s4.heap.push { cls := .type "slice", data := .fields #[vl, vu, vs] } } := I4.kept (t' := s4.toks) fun b ob q => Heap.get?_push_of_some _ q
  obtain ⟨its, rv, tp, hz⟩ := I5.tuple (SqT.of hx)
  show wpAny (model X.prog X.w) X.A (subscriptTail e (.Slice none none (some (.UnaryOp .USub (.Constant (.int 1) k p1) p2)) p3) (.ref a) (.ref s4.heap.objs.size)) (EP X pins σ Q) X.xe { s4 with heap := s4.heap.push { cls := .type "slice", data := .fields #[vl, vu, vs] } }
  refine tail_any (ops := [.ref a, .ref s4.heap.objs.size]) tp.typeIs (PyProof.Rows.slot_tuple_getitem.lookup) ?_ (by with_unfolding_all rfl)
  have hz2 : its.length ≤ sizeLine := by rw [← rv.length]; exact hz
  refine getItem_tup_back tp (Heap.IsSliceOf.new _ vl vu vs) pl pu ps hz2 ?_
  have hf := I5.fresh
  exact ⟨.ref _, _, I5.laid (t' := s4.toks) (o := .tup xs.reverse) (fun b ob q => Heap.get?_push_of_some _ q) (Nat.le_refl _) ⟨by rw [List.length_reverse]; exact hz, _, rv.reverse, IsTup.new _ _⟩, rfl, q _ hf⟩
/-- t * k, k at least 1 -/
def rRepA : R2 := fun x y H Q => ∃ l k xs, x = .ref l ∧ y = .int k ∧ H l = some (.tup xs) ∧ xs ≠ [] ∧ 1 ≤ k ∧ k ≤ 1000 ∧ xs.length ≤ 1000 ∧ ∀ p H', Same H H' → H' p = some (.tup (List.replicate k.toNat xs).flatten) → Q (.ref p) H'
theorem op_repA : OpR X (binaryOp .Mult) rRepA := by
  intro pins s σ H x y v u Q I rx ry h
  obtain ⟨l, k, xs, rfl, rfl, hT, hne, h1, h2, hz, q⟩ := h
  by_cases hk : k = 1
  · subst hk
    cases rx
    obtain ⟨t, rfl⟩ := ry
    obtain ⟨its, r, ⟨⟨cls, dd, data, sl⟩, ho, hc, n, hd⟩, hs⟩ := I.tuple (SqT.of hT)
    simp only at hc hd
    subst hc hd
    refine wpAny_binaryOp_repeat_ref (T := "tuple") (U := "int") (by decide) ⟨_, ho, rfl⟩ (fun s' => typeIs_int s' 1 t) noFill_tuple_mul F.fills_int_mul F.slot_int_rmul repeat_tuple F.slot_int_index.lookup
      (call_meets F.slot_int_rmul (typeIs_int s 1 t) F.entry_int_rmul (F.args_int_rmul_2 _ _) (int_rmul_tuple 1 t l its.toArray n dd sl)
        ⟨ho, rfl, ⟨_, ho, rfl⟩, call_meets F.slot_tuple_mul ⟨_, ho, rfl⟩ F.entry_tuple_mul (F.args_tuple_mul_2 _ _) (tup_once l its.toArray n dd sl t (by simp)) ⟨ho, ?_⟩⟩)
    refine ⟨.ref l, H, I, rfl, q l H (Same.refl H) ?_⟩
    rw [hT]
    simp
  · refine op_repT pins s σ H _ _ v u Q I rx ry ⟨l, k, xs, rfl, rfl, SqT.of hT, hne, by omega, h2, hz, fun p hp => q p _ (Same.new hp) upd_same⟩
end
end Fo
end
section
set_option Elab.async false
set_option linter.all false
set_option maxRecDepth 100000
set_option maxHeartbeats 8000000
/-! Dicts whose keys are standings: tuples of None and numbers. -/
namespace Fo
open PySem PySem.Spec PyProof.Rows L2

/-- a standing: a thing or none for each person -/
abbrev Stg := List (Option Nat)
def oV : Option Nat → V
  | none => .non
  | some i => .int (i : Nat)
def oLf : Option Nat → Leaf
  | none => .none
  | some i => .num (i : Nat)
theorem oLf_inj : ∀ {a b : Option Nat}, oLf a = oLf b → a = b
  | none, none, _ => rfl
  | none, some _, e => nomatch e
  | some _, none, e => nomatch e
  | some a, some b, e => by
    injection e with e
    rw [Int.ofNat.inj e]
theorem oV_inj : ∀ {a b : Option Nat}, oV a = oV b → a = b
  | none, none, _ => rfl
  | none, some _, e => nomatch e
  | some _, none, e => nomatch e
  | some a, some b, e => by
    injection e with e
    rw [Int.ofNat.inj e]
theorem mapoV_inj : ∀ {a b : Stg}, a.map oV = b.map oV → a = b
  | [], [], _ => rfl
  | [], _ :: _, e => by simp at e
  | _ :: _, [], e => by simp at e
  | x :: xs, y :: ys, e => by
    rw [List.map_cons, List.map_cons] at e
    injection e with e1 e2
    rw [oV_inj e1, mapoV_inj e2]
def optKind (P : Program) (w : World) : KeyKind P w (Option Nat) where
  is := fun k v => (leafKind P w).is (oLf k) v
  hash := fun k => (leafKind P w).hash (oLf k)
  inj := fun v a b ha hb => oLf_inj ((leafKind P w).inj v _ _ ha hb)
  byValue := fun k v h => (leafKind P w).byValue (oLf k) v h
  pyHash := fun hv h => (leafKind P w).pyHash hv h
  eqBool := fun {A E s a b u v Q} hu hv h => (leafKind P w).eqBool hu hv (by
    rw [show decide (oLf a = oLf b) = decide (a = b) from decide_eq_decide.mpr ⟨oLf_inj, fun e => by rw [e]⟩]
    exact h)
  «strs» := fun k x t v h => by
    cases k with
    | none => exact absurd h Bool.false_ne_true
    | some i => exact absurd h Bool.false_ne_true
abbrev stK (P : Program) (w : World) : HeapKind P w Stg := tupleKind (optKind P w)
theorem oV_is {P : Program} {w : World} {k : Option Nat} {u : Value} (r : RelV (oV k) u) : (optKind P w).is k u = true := by
  cases k with
  | none => cases (show u = Value.none from r); exact rfl
  | some i => obtain ⟨t, e⟩ := (show ∃ t, u = Value.int i t from r); subst e; exact decide_eq_true rfl
theorem oItems {P : Program} {w : World} : ∀ {ks : Stg} {us : List Value}, Vals (ks.map oV) us → ItemsAre (optKind P w) ks us
  | [], _, r => by rw [List.map_nil] at r; cases r; exact .nil
  | k :: ks, _, r => by
    rw [List.map_cons] at r
    cases r with
    | cons h t => exact .cons (oV_is h) (oItems t)
theorem stKey {P : Program} {w : World} {H : Hp} {h : Heap} {b : Addr} {k : Stg} (ok : HOk P w H h) (e : H b = some (.tup (k.map oV))) : (stK P w).is h k b := by
  obtain ⟨_, its, r, o, h1, h2, n, h3⟩ := (show ObjOk P w H h b (.tup (k.map oV)) from ok b _ e)
  exact ⟨o, its.toArray, n, h1, h2, h3, by simpa using oItems r⟩

/-- values that tell themselves -/
def uOf : V → Value
  | .ref a => .ref a
  | .bl b => .bool b
  | _ => .none
def Fx : V → Prop
  | .ref _ => True
  | .bl _ => True
  | _ => False
theorem relV_u : ∀ {v : V}, Fx v → RelV v (uOf v)
  | .ref _, _ => rfl
  | .bl _, _ => rfl
theorem relV_fx : ∀ {v : V} {u : Value}, Fx v → RelV v u → u = uOf v
  | .ref _, _, _, r => r
  | .bl _, _, _, r => r

abbrev Ent := List (Stg × Addr × V)
def raw (xs : Ent) : List (Stg × Addr × Value) := xs.map fun x => (x.1, x.2.1, uOf x.2.2)
def getN (xs : Ent) (k : Stg) : Option V := (xs.find? fun x => decide (x.1 = k)).map (·.2.2)
def putN (xs : Ent) (k : Stg) (b : Addr) (v : V) : Ent :=
  if (getN xs k).isSome = true then xs.map (fun x => if x.1 = k then (x.1, x.2.1, v) else x) else xs ++ [(k, b, v)]
theorem getN_cons (x : Stg × Addr × V) (xs : Ent) (k : Stg) : getN (x :: xs) k = if x.1 = k then some x.2.2 else getN xs k := by
  unfold getN
  rw [List.find?_cons]
  by_cases h : x.1 = k
  · rw [if_pos h, decide_eq_true h]; rfl
  · rw [if_neg h, decide_eq_false h]
theorem getN_app (xs ys : Ent) (k : Stg) : getN (xs ++ ys) k = (getN xs k).or (getN ys k) := by
  induction xs with
  | nil => rfl
  | cons x xs ih =>
    rw [List.cons_append, getN_cons, getN_cons]
    by_cases h : x.1 = k
    · rw [if_pos h, if_pos h]; rfl
    · rw [if_neg h, if_neg h, ih]
theorem getN_mem {xs : Ent} {k : Stg} {v : V} (h : getN xs k = some v) : ∃ b, (k, b, v) ∈ xs := by
  induction xs with
  | nil => cases h
  | cons x xs ih =>
    rw [getN_cons] at h
    by_cases e : x.1 = k
    · rw [if_pos e] at h
      cases h
      subst e
      exact ⟨x.2.1, List.mem_cons_self⟩
    · rw [if_neg e] at h
      obtain ⟨b, hb⟩ := ih h
      exact ⟨b, List.mem_cons_of_mem _ hb⟩
theorem getN_none {xs : Ent} {k : Stg} : getN xs k = none ↔ k ∉ xs.map (·.1) := by
  induction xs with
  | nil => simp [getN]
  | cons x xs ih =>
    rw [getN_cons, List.map_cons, List.mem_cons, not_or]
    by_cases e : x.1 = k
    · rw [if_pos e]; exact ⟨fun h => (nomatch h), fun h => absurd e.symm h.1⟩
    · rw [if_neg e, ih]; exact ⟨fun h => ⟨fun z => e z.symm, h⟩, fun h => h.2⟩
theorem atKey_cons {K : Type} [DecidableEq K] (x : K × Addr × Value) (xs : List (K × Addr × Value)) (k : K) : atKey (x :: xs) k = if x.1 = k then some x.2 else atKey xs k := by
  unfold atKey
  rw [List.find?_cons]
  by_cases h : x.1 = k
  · rw [if_pos h, decide_eq_true h]; rfl
  · rw [if_neg h, decide_eq_false h]
theorem raw_at (xs : Ent) (k : Stg) : (atKey (raw xs) k).map (·.2) = (getN xs k).map uOf := by
  induction xs with
  | nil => rfl
  | cons x xs ih =>
    show (atKey ((x.1, x.2.1, uOf x.2.2) :: raw xs) k).map (·.2) = _
    rw [atKey_cons, getN_cons]
    by_cases h : x.1 = k
    · rw [if_pos h, if_pos h]; rfl
    · rw [if_neg h, if_neg h, ih]
theorem raw_put (xs : Ent) (k : Stg) (b : Addr) (v : V) : raw (putN xs k b v) = storedH (raw xs) k b (uOf v) := by
  have e : (getN xs k).isSome = (atKey (raw xs) k).isSome := by
    have := congrArg Option.isSome (raw_at xs k)
    rw [Option.isSome_map, Option.isSome_map] at this
    exact this.symm
  unfold putN storedH
  rw [e]
  by_cases q : (atKey (raw xs) k).isSome = true
  · rw [if_pos q, if_pos q]
    unfold raw
    rw [List.map_map, List.map_map]
    refine List.map_congr_left fun x _ => ?_
    show _ = putAt k (uOf v) (x.1, x.2.1, uOf x.2.2)
    unfold putAt
    by_cases z : x.1 = k
    · rw [if_pos z]; simp [z]
    · rw [if_neg z]; simp [z]
  · rw [if_neg q, if_neg q]
    unfold raw
    rw [List.map_append]
    rfl
theorem raw_keys (xs : Ent) : (raw xs).map (·.1) = xs.map (·.1) := by
  unfold raw
  rw [List.map_map]
  rfl
theorem raw_length (xs : Ent) : (raw xs).length = xs.length := by unfold raw; rw [List.length_map]
theorem putN_length (xs : Ent) (k : Stg) (b : Addr) (v : V) : (putN xs k b v).length ≤ xs.length + 1 := by
  unfold putN
  split
  · rw [List.length_map]; omega
  · rw [List.length_append]; exact Nat.le_refl _
theorem putN_new {xs : Ent} {k : Stg} (b : Addr) (v : V) (h : getN xs k = none) : putN xs k b v = xs ++ [(k, b, v)] := by
  unfold putN
  rw [h]
  exact if_neg (by decide)

/-- a dict whose keys are standings -/
def DN (P : Program) (w : World) (d : Addr) (xs : Ent) (ep : Nat) : HO :=
  .ext fun h => ∃ (o : Obj) (es : Array DictEntry), h.get? d = some o ∧ o.ExactDict ∧ o.data = .dict es ep ∧ es.toList = (raw xs).map (entryOfKey (stK P w)) ∧ (xs.map (·.1)).Nodup ∧ (∀ x ∈ xs, Fx x.2.2) ∧ (d == sysModules) = false ∧ xs.length ≤ sizeLine
/-- its keys stand -/
def KN (H : Hp) (xs : Ent) : Prop := ∀ x ∈ xs, H x.2.1 = some (.tup (x.1.map oV))
theorem KN.keep {H H' : Hp} {xs : Ent} (h : KN H xs) (k : ∀ b ys, H b = some (.tup ys) → H' b = some (.tup ys)) : KN H' xs := fun x hx => k _ _ (h x hx)
theorem KN.same {H H' : Hp} {xs : Ent} (h : KN H xs) (k : Same H H') : KN H' xs := fun x hx => k _ _ (h x hx)
section
variable {P : Program} {w : World} {H : Hp} {h : Heap} {d : Addr} {xs : Ent} {ep : Nat}
theorem dn_new {o : Obj} {es : Array DictEntry} (h1 : h.get? d = some o) (h2 : o.ExactDict) (h3 : o.data = .dict es ep) (h4 : es.toList = (raw xs).map (entryOfKey (stK P w))) (h5 : (xs.map (·.1)).Nodup) (h6 : ∀ x ∈ xs, Fx x.2.2)
    (h7 : (d == sysModules) = false) (h8 : xs.length ≤ sizeLine) : ObjOk P w H h d (DN P w d xs ep) := by
  refine ⟨⟨o, es, h1, h2, h3, h4, h5, h6, h7, h8⟩, ⟨o, h1⟩, fun ha hb q k => ?_⟩
  obtain ⟨o', es', e1, r⟩ := q
  exact ⟨o', es', k _ e1, r⟩
theorem dn_rd (ok : HOk P w H h) (e : H d = some (DN P w d xs ep)) : ∃ (o : Obj) (es : Array DictEntry), h.get? d = some o ∧ o.ExactDict ∧ o.data = .dict es ep ∧ es.toList = (raw xs).map (entryOfKey (stK P w)) ∧ (xs.map (·.1)).Nodup ∧ (∀ x ∈ xs, Fx x.2.2) ∧ (d == sysModules) = false ∧ xs.length ≤ sizeLine := (ok d _ e).1
theorem kn_is (ok : HOk P w H h) (kn : KN H xs) : ∀ x ∈ raw xs, (stK P w).is h x.1 x.2.1 := by
  intro x hx
  obtain ⟨y, hy, rfl⟩ := List.mem_map.mp hx
  exact stKey ok (kn y hy)
theorem dn_H (ok : HOk P w H h) (e : H d = some (DN P w d xs ep)) (kn : KN H xs) : h.DictOfH (stK P w) d (raw xs) := by
  obtain ⟨o, es, h1, h2, h3, h4, h5, _⟩ := dn_rd ok e
  exact ⟨o, es, ep, h1, h2, h3, h4, kn_is ok kn, by rw [raw_keys]; exact h5⟩
/-- out of the library's word for it -/
theorem dn_of (hd : h.DictOfH (stK P w) d (raw xs)) (h6 : ∀ x ∈ xs, Fx x.2.2) (h7 : (d == sysModules) = false) (h8 : xs.length ≤ sizeLine) : ∃ ep, ObjOk P w H h d (DN P w d xs ep) := by
  obtain ⟨o, es, ep, h1, h2, h3, h4, _, h5⟩ := hd
  exact ⟨ep, dn_new h1 h2 h3 h4 (by rw [← raw_keys]; exact h5) h6 h7 h8⟩
end
theorem putN_fx {xs : Ent} {k : Stg} {b : Addr} {v : V} (h : ∀ x ∈ xs, Fx x.2.2) (hv : Fx v) : ∀ x ∈ putN xs k b v, Fx x.2.2 := by
  intro x hx
  unfold putN at hx
  split at hx
  · obtain ⟨y, hy, rfl⟩ := List.mem_map.mp hx
    by_cases z : y.1 = k
    · rw [if_pos z]; exact hv
    · rw [if_neg z]; exact h y hy
  · rcases List.mem_append.mp hx with q | q
    · exact h x q
    · rw [List.mem_singleton.mp q]; exact hv

/-! ### readings and rules -/
section
variable {X : Cx} {pins : List (Addr × Obj)} {σ : L2.St} {H : Hp} {s : Shared} {d b : Addr} {xs : Ent} {ep : Nat} {k : Stg} {v : V} {u r : Value} {A : Around} {E : Value → Shared → Prop}
theorem dn_write {h' : Heap} {t' : Nat} {ob : HO} (I : Inv X pins σ H s) (e : H d = some (DN X.prog X.w d xs ep)) (hs : Heap.SameBut d s.heap h') (he : ∃ q, h'.get? d = some q) (new : ObjOk X.prog X.w (upd H d ob) h' d ob) :
    Inv X pins σ (upd H d ob) { s with heap := h', toks := t' } :=
  I.write (x := d) (e := d) (by rw [e]; exact True.intro) (.inl rfl) (fun b q hb z => (hs.2 b hb).trans z) he new
theorem dn_set {Q : Unit → Shared → Prop} (hu : A.units + 1 < cLine) (I : Inv X pins σ H s) (e : H d = some (DN X.prog X.w d xs ep)) (kn : KN H xs) (eb : H b = some (.tup (k.map oV))) (fv : Fx v) (rv : RelV v r) (hl : xs.length < sizeLine)
    (h : ∀ s' ep', Inv X pins σ (upd H d (DN X.prog X.w d (putN xs k b v) ep')) s' → Q () s') : wpAny (model X.prog X.w) A (setItem (.ref d) (.ref b) r) Q E s := by
  obtain ⟨_, _, _, _, _, _, _, h6, h7, h8⟩ := dn_rd I.hok e
  have er := relV_fx fv rv
  subst er
  refine wpAny_setItem_heap (hsz := by rw [raw_length]; exact h8) (tupleKind_room_in1 hu) (stKey I.hok eb) (dn_H I.hok e kn) fun h' dd' hs => ?_
  rw [← raw_put] at dd'
  obtain ⟨ep', new⟩ := dn_of (H := upd H d (DN X.prog X.w d (putN xs k b v) 0)) dd' (putN_fx h6 fv) h7 (by have := putN_length xs k b v; omega)
  have he : ∃ q, h'.get? d = some q := let ⟨q, _, _, hq, _⟩ := dd'; ⟨q, hq⟩
  refine h _ ep' (dn_write I e hs he ?_)
  exact ⟨new.1, new.2.1, new.2.2⟩
theorem dn_get2 {Q : Value → Shared → Prop} {x : V} (hu : A.units + 1 < cLine) (I : Inv X pins σ H s) (e : H d = some (DN X.prog X.w d xs ep)) (kn : KN H xs) (eb : H b = some (.tup (k.map oV))) (rx : RelV x r)
    (h : ∀ w' s', Inv X pins σ H s' → RelV ((getN xs k).getD x) w' → Q w' s') : wpAny (model X.prog X.w) A (call (.builtin "dict.get") [.ref d, .ref b, r]) Q E s := by
  obtain ⟨_, _, _, _, _, _, _, h6, h7, h8⟩ := dn_rd I.hok e
  have dd := dn_H I.hok e kn
  refine call_meetsIn PySem.F.slot_dict_get dd.typeIs PySem.F.entry_dict_get (PySem.F.args_dict_get_3 _ _ _) (meetsH_dict_get_default (stK X.prog X.w) d b h7 r) ⟨tupleKind_room_in1 hu, k, raw xs, stKey I.hok eb, dd, h _ _ (I.tok _) ?_⟩
  rw [raw_at]
  cases q : getN xs k with
  | none => exact rx
  | some y =>
    obtain ⟨c, hc⟩ := getN_mem q
    exact relV_u (h6 _ hc)
end
/-- {} -/
def tDNewN (P : Program) (w : World) : TE := fun _ H Q => ∀ p, H p = none → Q (.ref p) (upd H p (DN P w p [] 0))
theorem dn_empty {P : Program} {w : World} {H : Hp} (h : Heap) (hb : sysModules < h.objs.size) : ObjOk P w H (h.push { cls := .type "dict", data := .dict #[] }) h.objs.size (DN P w h.objs.size [] 0) :=
  dn_new (Heap.get?_push_size _ rfl) ⟨rfl, rfl, rfl⟩ rfl rfl List.nodup_nil (fun _ h => nomatch h) (beq_eq_false_iff_ne.mpr (Ne.symm (Nat.ne_of_lt hb))) (Nat.zero_le _)
theorem pe_dnewN {X : Cx} {pos : Pos} : PE X (.Dict [] [] pos) (tDNewN X.prog X.w) := ⟨fun pins s σ H Q I h =>
  wpAny_Dict_empty ⟨.ref s.heap.objs.size, _, I.laid (a := s.heap.objs.size) (o := DN X.prog X.w s.heap.objs.size [] 0) (t' := s.toks) (fun _ _ q => Heap.get?_push_of_some _ q) (Nat.le_refl _) (dn_empty s.heap I.big), rfl, h _ (I.hok.fresh (Nat.le_refl _))⟩⟩
/-- d.get(y, x) -/
def tDGetN (P : Program) (w : World) (td ty tx : TE) : TE := fun σ H Q => td σ H fun x H1 => (∃ a xs ep, x = .ref a ∧ H1 a = some (DN P w a xs ep)) ∧ ty σ H1 fun y H2 => tx σ H2 fun z H3 =>
  ∃ a xs ep b k, x = .ref a ∧ H3 a = some (DN P w a xs ep) ∧ KN H3 xs ∧ y = .ref b ∧ H3 b = some (.tup (k.map oV)) ∧ Q ((getN xs k).getD z) H3
/-- d[y] = v -/
def sDPutN (P : Program) (w : World) (td ty tv : TE) : TS := fun D σ H => tv σ H fun v H1 => td σ H1 fun x H2 => ty σ H2 fun y H3 =>
  ∃ a xs ep b k, x = .ref a ∧ H3 a = some (DN P w a xs ep) ∧ KN H3 xs ∧ y = .ref b ∧ H3 b = some (.tup (k.map oV)) ∧ Fx v ∧ xs.length < sizeLine ∧ ∀ ep', D.nx σ (upd H3 a (DN P w a (putN xs k b v) ep'))
section
variable {X : Cx} {o i e f value : Expr} {apos cpos pos pos' : Pos} {td ty tx tv : TE}
theorem pe_dgetN (hu : X.A.units + 1 < cLine) (ho : PE X o td) (he : PE X e ty) (hf : PE X f tx) (m : M2 X o "get" apos e f cpos) : PE X (.Call (.Attribute o "get" apos) [e, f] [] cpos) (tDGetN X.prog X.w td ty tx) := by
  refine ⟨fun pins s σ H Q I h => ?_⟩
  refine wpAny_Call_method m.base m.few m.line PySem.F.plainAttrs_dict PySem.F.slot_dict_get PySem.F.type_dict_get (thn (ho.run pins s σ H _ I h) fun u s1 ⟨x, H1, I1, rx, ⟨a, xs, ep, ex, d⟩, q1⟩ => ?_)
  subst ex
  obtain rfl : u = Value.ref a := rx
  obtain ⟨o1, es, g1, g2, _⟩ := dn_rd I1.hok d
  refine ⟨⟨o1, g1, g2.1⟩, fun b q => by cases q; exact ⟨o1, g1, g2.2.1⟩, ?_⟩
  rw [m.trees]
  refine Calls.callWith_builtin rfl (Calls.evalArgs_plain (Calls.spliced_cons (thn (he.run pins s1 σ H1 _ I1 q1) fun iv s2 ⟨y, H2, I2, ry, q2⟩ =>
    Calls.spliced_cons (thn (hf.run pins s2 σ H2 _ I2 q2) fun fv s3 ⟨z, H3, I3, rz, a', xs', ep', b, k, ex, e1, kn, ey, eb, q3⟩ => Calls.spliced_nil ?_))))
  cases ex
  subst ey
  cases ry
  exact dn_get2 hu I3 e1 kn eb rz fun w' s4 I4 rw' => ⟨_, H3, I4, rw', q3⟩
theorem ps_dputN (hu : X.A.units + 1 < cLine) (ho : PE X o td) (hi : PE X i ty) (hv : PE X value tv) (hs : swapsWith value (some (.Subscript o i pos')) pos.line X.env = pure false) :
    PS X (.Assign [.Subscript o i pos'] value pos) (sDPutN X.prog X.w td ty tv) := by
  refine ⟨fun pins s σ H D I h => ?_⟩
  refine wpAny_Assign_Subscript (thn (hv.run pins s σ H _ I h) fun r s1 ⟨v, H1, I1, rv, q1⟩ => thn (ho.run pins s1 σ H1 _ I1 q1) fun u s2 ⟨x, H2, I2, rx, q2⟩ => thn (hi.run pins s2 σ H2 _ I2 q2) fun iv s3 ⟨y, H3, I3, ry, a, xs, ep, b, k, ex, e1, kn, ey, eb, fv, hl, q3⟩ => ?_) hs
  subst ex ey
  cases rx
  cases ry
  exact dn_set hu I3 e1 kn eb fv rv hl fun s4 ep' I4 => ⟨σ, _, I4, q3 ep'⟩
end
theorem disp_H {prog : Program} {w : World} {A : Around} {E : Value → Shared → Prop} {s : Shared} {knd : HeapKind prog w Stg} {env : Env} {keys : List (Option Expr)} {values : List Expr} {pos : Pos} {pairs : List (Sem Value × Sem Value)} {Q : Value → Shared → Prop} (hu : knd.room A)
    (hshape : (evalEachOpt keys env).zip ((evalEach values env).map fun v => do let x ← v; standAt pos; pure x) = pairs.map fun p => (some p.1, p.2)) (h0 : pairs ≠ []) (hlen : pairs.length ≤ 15)
    (h : wpAny (model prog w) A (evalPairs pairs) (fun vs s₁ => ∃ ps, CarriesH knd s₁.heap vs ps ∧ s₁.heap.DictOfH knd s.heap.objs.size [] ∧
      ∀ h' tk, h'.DictOfH knd s.heap.objs.size (storedAllH [] ps) → Heap.SameBut s.heap.objs.size s₁.heap h' → Q (.ref s.heap.objs.size) { s₁ with heap := h', toks := tk }) E
      { s with heap := s.heap.push { cls := .type "dict", data := .dict #[] } }) :
    wpAny (model prog w) A (eval (.Dict keys values pos) env) Q E s := by
  rw [arm_eval_Dict, hshape, dictDisplay_pairs pairs h0 (by omega)]
  exact wpAny_bind (wpAny_standAt (wpAny_bind (wpAny_subDictH (knd := knd) (Q := fun d s' => wpAny (model prog w) A (pure (Value.ref d)) Q E s') hu hlen
    (wpAny_mono h (fun vs s₁ h₁ => by obtain ⟨ps, hc, hm, hq⟩ := h₁; exact ⟨ps, hc, hm, fun h' tk a b => wpAny_pure (hq h' tk a b)⟩) fun _ _ e => e))))
/-- {y: v} -/
def tDispN (P : Program) (w : World) (tk tv : TE) : TE := fun σ H Q => ∀ p, H p = none → tk σ (upd H p (DN P w p [] 0)) fun y H1 => tv σ H1 fun v H2 =>
  H2 p = some (DN P w p [] 0) ∧ ∃ b k, y = .ref b ∧ H2 b = some (.tup (k.map oV)) ∧ Fx v ∧ ∀ ep', Q (.ref p) (upd H2 p (DN P w p [(k, b, v)] ep'))
theorem pe_dispN {X : Cx} {k v : Expr} {pos : Pos} {tk tv : TE} (hu : X.A.units + 1 < cLine) (hk : PE X k tk) (hv : PE X v tv) : PE X (.Dict [some k] [v] pos) (tDispN X.prog X.w tk tv) := by
  refine ⟨fun pins s σ H Q I q => ?_⟩
  have hn := I.hok.fresh (Nat.le_refl s.heap.objs.size)
  have I1 := I.laid (a := s.heap.objs.size) (o := DN X.prog X.w s.heap.objs.size [] 0) (h' := s.heap.push { cls := .type "dict", data := .dict #[] }) (t' := s.toks) (fun _ _ q => Heap.get?_push_of_some _ q) (Nat.le_refl _) (dn_empty s.heap I.big)
  have hroom : (stK X.prog X.w).room X.A := by
    show X.A.units < cLine
    omega
  refine disp_H (knd := stK X.prog X.w) (pairs := pairTrees [some k] [v] X.env pos) hroom rfl (by simp [pairTrees]) (by simp [pairTrees]) ?_
  refine thn ((pps_cons hk hv pps_nil).run pins _ σ _ (fun ps H2 => match ps with
    | [(y, z)] => H2 s.heap.objs.size = some (DN X.prog X.w s.heap.objs.size [] 0) ∧ ∃ b k, y = .ref b ∧ H2 b = some (.tup (k.map oV)) ∧ Fx z ∧ ∀ ep', Q (.ref s.heap.objs.size) (upd H2 s.heap.objs.size (DN X.prog X.w s.heap.objs.size [(k, b, z)] ep'))
    | _ => False) I1 (q _ hn)) fun ws s2 fin => ?_
  obtain ⟨ps, H2, I2, rel, fin⟩ := fin
  match ps, ws, rel, fin with
  | [(y, z)], [(u1, u2)], .cons h1 .nil, fin =>
    obtain ⟨e, b, kk, rfl, eb, fz, q2⟩ := fin
    obtain ⟨r1, r2⟩ := h1
    cases (show u1 = Value.ref b from r1)
    have e2 : u2 = uOf z := relV_fx fz r2
    subst e2
    obtain ⟨_, _, _, _, _, _, _, h6, h7, h8⟩ := dn_rd I2.hok e
    refine ⟨[(kk, b, uOf z)], ⟨rfl, rfl, stKey I2.hok eb, True.intro⟩, dn_H I2.hok e (fun _ h => nomatch h), fun h' tk' dd' hs => ?_⟩
    obtain ⟨ep', new⟩ := dn_of (H := upd H2 s.heap.objs.size (DN X.prog X.w s.heap.objs.size [(kk, b, z)] 0)) (xs := [(kk, b, z)]) dd' (fun x hx => by rw [List.mem_singleton.mp hx]; exact fz) h7 (by rw [sizeLine_eq, List.length_cons, List.length_nil]; omega)
    have he : ∃ q, h'.get? s.heap.objs.size = some q := let ⟨q, _, _, hq, _⟩ := dd'; ⟨q, hq⟩
    exact ⟨.ref _, upd H2 s.heap.objs.size (DN X.prog X.w s.heap.objs.size [(kk, b, z)] ep'), dn_write I2 e hs he ⟨new.1, new.2.1, new.2.2⟩, rfl, q2 ep'⟩

/-! ### walks -/
/-- the keys -/
def ItNk (P : Program) (w : World) (d : Addr) (xs : Ent) (ep : Nat) : It :=
  ⟨fun i H => H d = some (DN P w d xs ep) ∧ i < xs.length, fun i H x H' => H' = H ∧ ∃ y, xs[i]? = some y ∧ x = .ref y.2.1, fun i H => H d = some (DN P w d xs ep) ∧ xs.length ≤ i⟩
/-- the values -/
def ItNv (P : Program) (w : World) (d : Addr) (xs : Ent) (ep : Nat) : It :=
  ⟨fun i H => H d = some (DN P w d xs ep) ∧ i < xs.length, fun i H x H' => H' = H ∧ ∃ y, xs[i]? = some y ∧ x = y.2.2, fun i H => H d = some (DN P w d xs ep) ∧ xs.length ≤ i⟩
/-- the pairs -/
def ItNi (P : Program) (w : World) (d : Addr) (xs : Ent) (ep : Nat) : It :=
  ⟨fun i H => H d = some (DN P w d xs ep) ∧ i < xs.length, fun i H x H' => ∃ T y, xs[i]? = some y ∧ x = .ref T ∧ H T = none ∧ H' = upd H T (.tup [.ref y.2.1, y.2.2]), fun i H => H d = some (DN P w d xs ep) ∧ xs.length ≤ i⟩
theorem dn_es {P : Program} {w : World} {es : Array DictEntry} {xs : Ent} (h : es.toList = (raw xs).map (entryOfKey (stK P w))) : es.size = xs.length ∧ ∀ (i : Nat) (hi : i < es.size), ∃ y, xs[i]? = some y ∧ es[i].key = .ref y.2.1 ∧ es[i].val = uOf y.2.2 := by
  have l : es.size = xs.length := by rw [← Array.length_toList, h, List.length_map, raw_length]
  refine ⟨l, fun i hi => ?_⟩
  have e : es[i]? = some es[i] := Array.getElem?_eq_getElem hi
  rw [← Array.getElem?_toList, h] at e
  unfold raw at e
  rw [List.map_map, List.getElem?_map] at e
  cases q : xs[i]? with
  | none => rw [q] at e; cases e
  | some y =>
    rw [q] at e
    have e' := Option.some.inj e
    exact ⟨y, rfl, by rw [← e']; rfl, by rw [← e']; rfl⟩
section
variable {P : Program} {w : World} {K : PySem.W.Frag} {tg : Expr} {d : Addr} {xs : Ent} {es : Array DictEntry} {ep : Nat}
theorem dn_same {X : Cx} {pins : List (Addr × Obj)} {σ : L2.St} {H : Hp} {s : Shared} (I : Inv X pins σ H s) (e : H d = some (DN X.prog X.w d xs ep)) (h0 : es.toList = (raw xs).map (entryOfKey (stK X.prog X.w))) :
    s.heap.DictRaw d es ep ∧ (∀ x ∈ xs, Fx x.2.2) := by
  obtain ⟨o, es', h1, h2, h3, h4, _, h6, _⟩ := dn_rd I.hok e
  have : es' = es := Array.toList_inj.mp (h4.trans h0.symm)
  subst this
  exact ⟨⟨o, h1, h2, h3⟩, h6⟩
theorem turn_nk (it : Addr) (h0 : es.toList = (raw xs).map (entryOfKey (stK P w))) : Turn P w K tg (ItNk P w d xs ep) [it] it (fun i h => h.IsKeyIter it d i es.size ep) where
  mem := by simp
  obj := fun i h st b hb => by
    have e : b = it := by simpa using hb
    subst e
    obtain ⟨oi, e, c, dd⟩ := st
    exact ⟨oi, e, fun v z => by rw [dd] at z; cases z⟩
  keep := fun i h h' st k => st.at fun oi e => k it (by simp) oi e
  item := by
    intro X hP hw hK hc i pins s σ H E I hf st hg
    subst hP hw hK
    obtain ⟨hd, hi⟩ := hg
    obtain ⟨f0, f1, f2, f3, f4, f5⟩ := hf it (by simp)
    obtain ⟨hr, hfx⟩ := dn_same I hd h0
    obtain ⟨hl, ent⟩ := dn_es h0
    have hi' : i < es.size := by omega
    obtain ⟨y, hy, hk, hv⟩ := ent i hi'
    refine wpAny_pyNext_keys_item_raw st hr hi' fun h' st' sb => ?_
    have I1 : Inv X pins σ H { s with heap := h' } := I.turned (t' := s.toks) (fun b ob hb e => (sb.2 b hb).trans e) f0 f1 f3 f4 f5
    obtain ⟨oi, e, c, dd⟩ := id st'
    exact ⟨_, rfl, go_of (s := { s with heap := h' }) e c dd (by decide) ⟨.ref y.2.1, H, I1, hk, ⟨rfl, y, hy, rfl⟩, st', fun b hb => (hf b hb).1⟩⟩
  done := by
    intro X hP hw hK hc i pins s σ H E I hf st hg
    subst hP hw hK
    obtain ⟨hd, hi⟩ := hg
    obtain ⟨f0, f1, f2, f3, f4, f5⟩ := hf it (by simp)
    obtain ⟨hr, hfx⟩ := dn_same I hd h0
    obtain ⟨hl, ent⟩ := dn_es h0
    exact wpAny_pyNext_keys_end_raw (I.ok.hd hc) st hr (by omega) fun h' eb => ⟨rfl, I.turned (t' := s.toks) (fun b ob hb e => eb b ob hb e) f0 f1 f3 f4 f5⟩
  self := fun A i s Q E st h => wpAny_pyIter_keyiter st h
theorem turn_nv (it : Addr) (h0 : es.toList = (raw xs).map (entryOfKey (stK P w))) : Turn P w K tg (ItNv P w d xs ep) [it] it (fun i h => h.IsValIter it d i es.size ep) where
  mem := by simp
  obj := fun i h st b hb => by
    have e : b = it := by simpa using hb
    subst e
    obtain ⟨oi, e, c, dd⟩ := st
    exact ⟨oi, e, fun v z => by rw [dd] at z; cases z⟩
  keep := fun i h h' st k => st.at fun oi e => k it (by simp) oi e
  item := by
    intro X hP hw hK hc i pins s σ H E I hf st hg
    subst hP hw hK
    obtain ⟨hd, hi⟩ := hg
    obtain ⟨f0, f1, f2, f3, f4, f5⟩ := hf it (by simp)
    obtain ⟨hr, hfx⟩ := dn_same I hd h0
    obtain ⟨hl, ent⟩ := dn_es h0
    have hi' : i < es.size := by omega
    obtain ⟨y, hy, hk, hv⟩ := ent i hi'
    refine wpAny_pyNext_values_item_raw st hr hi' fun h' st' sb => ?_
    have I1 : Inv X pins σ H { s with heap := h' } := I.turned (t' := s.toks) (fun b ob hb e => (sb.2 b hb).trans e) f0 f1 f3 f4 f5
    obtain ⟨oi, e, c, dd⟩ := id st'
    refine ⟨_, rfl, go_of (s := { s with heap := h' }) e c dd (by decide) ⟨y.2.2, H, I1, ?_, ⟨rfl, y, hy, rfl⟩, st', fun b hb => (hf b hb).1⟩⟩
    rw [hv]
    exact relV_u (hfx y (List.mem_of_getElem? hy))
  done := by
    intro X hP hw hK hc i pins s σ H E I hf st hg
    subst hP hw hK
    obtain ⟨hd, hi⟩ := hg
    obtain ⟨f0, f1, f2, f3, f4, f5⟩ := hf it (by simp)
    obtain ⟨hr, hfx⟩ := dn_same I hd h0
    obtain ⟨hl, ent⟩ := dn_es h0
    exact wpAny_pyNext_values_end_raw (I.ok.hd hc) st hr (by omega) fun h' eb => ⟨rfl, I.turned (t' := s.toks) (fun b ob hb e => eb b ob hb e) f0 f1 f3 f4 f5⟩
  self := fun A i s Q E st h => wpAny_pyIter_valiter st h
theorem turn_ni {elts : List Expr} {kk : Nat} {tpos : Pos} (it : Addr) (h0 : es.toList = (raw xs).map (entryOfKey (stK P w))) :
    Turn P w K (.Tuple elts kk tpos) (ItNi P w d xs ep) [it] it (fun i h => ∃ ok ov, IsItemIter h it d i es.size ep ok ov) where
  mem := by simp
  obj := fun i h st b hb => by
    have e : b = it := by simpa using hb
    subst e
    obtain ⟨ok, ov, e⟩ := st
    exact ⟨_, e, fun v z => nomatch z⟩
  keep := fun i h h' st k => let ⟨ok, ov, e⟩ := st; ⟨ok, ov, k it (by simp) _ e⟩
  item := by
    intro X hP hw hK hc i pins s σ H E I hf st hg
    subst hP hw hK
    obtain ⟨hd, hi⟩ := hg
    obtain ⟨hr, hfx⟩ := dn_same I hd h0
    obtain ⟨hl, ent⟩ := dn_es h0
    have hi' : i < es.size := by omega
    obtain ⟨y, hy, hk, hv⟩ := ent i hi'
    obtain ⟨ok, ov, he⟩ := st
    have hlt : it < s.heap.objs.size := Heap.lt_size he
    refine wpAny_pyNext_items_item_raw he hr hi' fun h' ho hT _ hkp => ?_
    refine ⟨_, rfl, wpAny_letOwnedTupleGo_items (s := { s with heap := h' }) ho fun h'' he' sb => ?_⟩
    have hT2 := (sb.2 _ (Nat.ne_of_gt hlt)).trans hT
    have new : ObjOk X.prog X.w (upd H s.heap.objs.size (.tup [.ref y.2.1, y.2.2])) h'' s.heap.objs.size (.tup [.ref y.2.1, y.2.2]) :=
      ⟨by show 2 ≤ sizeLine; decide, [es[i].key, es[i].val], .cons hk (.cons (by rw [hv]; exact relV_u (hfx y (List.mem_of_getElem? hy))) .nil), ⟨_, hT2, rfl, _, rfl⟩⟩
    have I1 : Inv X pins σ (upd H s.heap.objs.size (.tup [.ref y.2.1, y.2.2])) { s with heap := h'' } :=
      I.turnedNew (t' := s.toks) (ch := [it]) (fun b ob hb e => (sb.2 b (by simpa using hb)).trans (hkp b ob (by simpa using hb) e)) hf (Nat.le_refl _) new
    refine ⟨.ref s.heap.objs.size, _, I1, rfl, ⟨_, y, hy, rfl, I.hok.fresh (Nat.le_refl _), rfl⟩, ⟨_, _, he'⟩, fun b hb => ?_⟩
    have e : b = it := by simpa using hb
    rw [e, upd_ne (Nat.ne_of_lt hlt)]
    exact (hf it (by simp)).1
  done := by
    intro X hP hw hK hc i pins s σ H E I hf st hg
    subst hP hw hK
    obtain ⟨hd, hi⟩ := hg
    obtain ⟨f0, f1, f2, f3, f4, f5⟩ := hf it (by simp)
    obtain ⟨hr, hfx⟩ := dn_same I hd h0
    obtain ⟨hl, ent⟩ := dn_es h0
    obtain ⟨ok, ov, he⟩ := st
    exact wpAny_pyNext_items_end_raw (I.ok.hd hc) he hr (by omega) fun h' eb => ⟨rfl, I.turned (t' := s.toks) (fun b ob hb e => eb b ob hb e) f0 f1 f3 f4 f5⟩
  self := fun A i s Q E st h => let ⟨_, _, e⟩ := st; wpAny_pyIter_itemiter e h
end
def iNk (P : Program) (w : World) (td : TE) : TI := fun σ H R => td σ H fun x H1 => ∃ d xs ep, x = .ref d ∧ H1 d = some (DN P w d xs ep) ∧ R (ItNk P w d xs ep) H1
def iNv (P : Program) (w : World) (td : TE) : TI := fun σ H R => td σ H fun x H1 => ∃ d xs ep, x = .ref d ∧ H1 d = some (DN P w d xs ep) ∧ R (ItNv P w d xs ep) H1
def iNi (P : Program) (w : World) (td : TE) : TI := fun σ H R => td σ H fun x H1 => ∃ d xs ep, x = .ref d ∧ H1 d = some (DN P w d xs ep) ∧ R (ItNi P w d xs ep) H1
section
variable {X : Cx} {tg e : Expr} {td : TE} {apos cpos : Pos}
theorem pi_nk (he : PE X e td) : PI X tg e (iNk X.prog X.w td) := by
  refine ⟨fun pins s σ H R I h => ?_⟩
  refine thn (he.run pins s σ H _ I h) fun u s1 ⟨x, H1, I1, rx, d, xs, ep, ex, hd, q⟩ => ?_
  subst ex
  obtain rfl : u = Value.ref d := rx
  obtain ⟨o, es, h1, h2, h3, h4, _, h6, h7, _⟩ := dn_rd I1.hok hd
  refine iter_keys h7 h1 h2 h3 (pi_one (tk := s1.toks) I1 _ (turn_nk _ h4) ⟨_, Heap.get?_push_size _ rfl, rfl, ?_⟩ q)
  rfl
theorem pi_nv (he : PE X e td) (hbase : attributeBase e "values" X.env (eval e X.env) = eval e X.env := by rfl) (hline : (apos.endLine == cpos.line) = true := by rfl) : PI X tg (.Call (.Attribute e "values" apos) [] [] cpos) (iNv X.prog X.w td) := by
  refine ⟨fun pins s σ H R I h => ?_⟩
  refine wpAny_Call_method (T := "dict") (id := "dict.values") hbase rfl hline F.plainAttrs_dict F.slot_dict_values F.type_dict_values (thn (he.run pins s σ H _ I h) fun u s1 ⟨x, H1, I1, rx, d, xs, ep, ex, hd, q⟩ => ?_)
  subst ex
  obtain rfl : u = Value.ref d := rx
  obtain ⟨o, es, h1, h2, h3, h4, _, h6, h7, _⟩ := dn_rd I1.hok hd
  refine ⟨⟨o, h1, h2.1⟩, fun b q => by cases q; exact ⟨o, h1, h2.2.1⟩, ?_⟩
  have hr : s1.heap.DictRaw d es ep := ⟨o, h1, h2, h3⟩
  have I2 : Inv X pins σ H1 { s1 with heap := s1.heap.push { cls := .type "dict_values", data := .fields #[.ref d] } } := I1.kept (t' := s1.toks) fun b ob q => Heap.get?_push_of_some _ q
  have fin : wpAny (model X.prog X.w) X.A (pyIter (.ref s1.heap.objs.size)) (PIE X pins σ tg R) X.xe { s1 with heap := s1.heap.push { cls := .type "dict_values", data := .fields #[.ref d] } } := by
    refine wpAny_pyIter_values_raw (d := d) ⟨_, Heap.get?_push_size _ rfl, rfl, rfl⟩ (hr.push _) (pi_one (tk := s1.toks) I2 _ (turn_nv _ h4) ⟨_, Heap.get?_push_size _ rfl, rfl, ?_⟩ q)
    rfl
  show wpAny _ _ (callWith cpos (.builtin "dict.values") [.ref d] [] []) _ X.xe s1
  exact method_meetsIn F.slot_dict_values F.entry_dict_values rfl (PySem.evalArgs_none ⟨rfl, ⟨o, h1, h2.1⟩, F.args_dict_values_1 _, _, meets_dict_values_raw d h7, ⟨es, ep, hr⟩, fin⟩)
theorem pi_ni {elts : List Expr} {kk : Nat} {tpos : Pos} (he : PE X e td) (hbase : attributeBase e "items" X.env (eval e X.env) = eval e X.env := by rfl) (hline : (apos.endLine == cpos.line) = true := by rfl) :
    PI X (.Tuple elts kk tpos) (.Call (.Attribute e "items" apos) [] [] cpos) (iNi X.prog X.w td) := by
  refine ⟨fun pins s σ H R I h => ?_⟩
  refine wpAny_Call_method (T := "dict") (id := "dict.items") hbase rfl hline F.plainAttrs_dict F.slot_dict_items F.type_dict_items (thn (he.run pins s σ H _ I h) fun u s1 ⟨x, H1, I1, rx, d, xs, ep, ex, hd, q⟩ => ?_)
  subst ex
  obtain rfl : u = Value.ref d := rx
  obtain ⟨o, es, h1, h2, h3, h4, _, h6, h7, _⟩ := dn_rd I1.hok hd
  refine ⟨⟨o, h1, h2.1⟩, fun b q => by cases q; exact ⟨o, h1, h2.2.1⟩, ?_⟩
  have hr : s1.heap.DictRaw d es ep := ⟨o, h1, h2, h3⟩
  have I2 : Inv X pins σ H1 { s1 with heap := s1.heap.push { cls := .type "dict_items", data := .fields #[.ref d] } } := I1.kept (t' := s1.toks) fun b ob q => Heap.get?_push_of_some _ q
  have fin : wpAny (model X.prog X.w) X.A (pyIter (.ref s1.heap.objs.size)) (PIE X pins σ (.Tuple elts kk tpos) R) X.xe { s1 with heap := s1.heap.push { cls := .type "dict_items", data := .fields #[.ref d] } } := by
    refine wpAny_pyIter_items_raw (d := d) ⟨_, Heap.get?_push_size _ rfl, rfl, rfl⟩ (hr.push _) (pi_one (tk := s1.toks) I2 _ (turn_ni _ h4) ⟨.none, .none, ?_⟩ q)
    exact Heap.get?_push_size _ rfl
  show wpAny _ _ (callWith cpos (.builtin "dict.items") [.ref d] [] []) _ X.xe s1
  exact method_meetsIn F.slot_dict_items F.entry_dict_items rfl (PySem.evalArgs_none ⟨rfl, ⟨o, h1, h2.1⟩, F.args_dict_items_1 _, _, meets_dict_items_raw d h7, ⟨es, ep, hr⟩, fin⟩)
end
theorem walk_nk {P : Program} {w : World} {d : Addr} {xs : Ent} {ep : Nat} : Walk (ItNk P w d xs ep) xs.length (fun H => H d = some (DN P w d xs ep)) (fun i H x H' => H' = H ∧ ∃ y, xs[i]? = some y ∧ x = .ref y.2.1) :=
  ⟨fun i _ hi q => ⟨q, hi⟩, fun _ q => ⟨q, Nat.le_refl _⟩, fun _ _ _ _ _ q y => y⟩
theorem walk_nv {P : Program} {w : World} {d : Addr} {xs : Ent} {ep : Nat} : Walk (ItNv P w d xs ep) xs.length (fun H => H d = some (DN P w d xs ep)) (fun i H x H' => H' = H ∧ ∃ y, xs[i]? = some y ∧ x = y.2.2) :=
  ⟨fun i _ hi q => ⟨q, hi⟩, fun _ q => ⟨q, Nat.le_refl _⟩, fun _ _ _ _ _ q y => y⟩
theorem walk_ni {P : Program} {w : World} {d : Addr} {xs : Ent} {ep : Nat} : Walk (ItNi P w d xs ep) xs.length (fun H => H d = some (DN P w d xs ep)) (fun i H x H' => ∃ T y, xs[i]? = some y ∧ x = .ref T ∧ H T = none ∧ H' = upd H T (.tup [.ref y.2.1, y.2.2])) :=
  ⟨fun i _ hi q => ⟨q, hi⟩, fun _ q => ⟨q, Nat.le_refl _⟩, fun _ _ _ _ _ q y => y⟩

/-! ### len, update -/
theorem cr_lenN {X : Cx} : CallR X (.builtin "len") (fun vs H Q => ∃ d xs ep, vs = [.ref d] ∧ H d = some (DN X.prog X.w d xs ep) ∧ KN H xs ∧ Q (.int ((xs.length : Nat) : Int)) H) := by
  intro pins s σ H vs us Q I r h
  obtain ⟨d, xs, ep, rfl, hd, kn, q⟩ := h
  rw [Vals.ref1 r]
  obtain ⟨o, es, h1, h2, h3, h4, _, h6, h7, h8⟩ := dn_rd I.hok hd
  have z : (xs.length : Int) < 2 ^ 63 := by rw [sizeLine_eq] at h8; omega
  refine call_len_dictH h7 (dn_H I.hok hd kn) (by rw [raw_length]; exact z) ?_
  rw [raw_length]
  exact ⟨.int ((xs.length : Nat) : Int), H, I.tok _, ⟨_, rfl⟩, q⟩
/-- d.update(e), d empty -/
def tUpdN (P : Program) (w : World) (td te : TE) : TE := fun σ H Q => td σ H fun x H1 => (∃ d, x = .ref d ∧ ∃ ep, H1 d = some (DN P w d [] ep)) ∧ te σ H1 fun y H2 =>
  ∃ d e xs ep ep1, x = .ref d ∧ y = .ref e ∧ d ≠ e ∧ H2 d = some (DN P w d [] ep1) ∧ H2 e = some (DN P w e xs ep) ∧ KN H2 xs ∧ (xs.map fun x => (stK P w).hash x.1).Nodup ∧ ∀ ep', Q .non (upd H2 d (DN P w d xs ep'))
theorem pe_updN {X : Cx} {o e : Expr} {apos cpos : Pos} {td te : TE} (hu : X.A.units + 1 < cLine) (ho : PE X o td) (he : PE X e te) (m : M1 X o "update" apos e cpos) : PE X (.Call (.Attribute o "update" apos) [e] [] cpos) (tUpdN X.prog X.w td te) := by
  refine ⟨fun pins s σ H Q I h => ?_⟩
  refine wpAny_Call_method m.base m.few m.line PySem.F.plainAttrs_dict PySem.F.slot_dict_update PySem.F.type_dict_update (thn (ho.run pins s σ H _ I h) fun u s1 ⟨x, H1, I1, rx, ⟨a, ex, ep0, d⟩, q1⟩ => ?_)
  subst ex
  obtain rfl : u = Value.ref a := rx
  obtain ⟨o1, es, g1, g2, _⟩ := dn_rd I1.hok d
  refine ⟨⟨o1, g1, g2.1⟩, fun b q => by cases q; exact ⟨o1, g1, g2.2.1⟩, ?_⟩
  rw [m.trees]
  refine Calls.callWith_builtin rfl (Calls.evalArgs_plain (Calls.spliced_cons (thn (he.run pins s1 σ H1 _ I1 q1) fun iv s2 ⟨y, H2, I2, ry, a', e', xs, ep, ep1, ex, ey, hne, e1, e2, kn, nd, q2⟩ => Calls.spliced_nil ?_)))
  cases ex
  subst ey
  cases ry
  obtain ⟨_, _, _, _, _, _, _, h6, h7, h8⟩ := dn_rd I2.hok e2
  obtain ⟨_, _, _, _, _, _, _, _, h9, _⟩ := dn_rd I2.hok e1
  have dd := dn_H I2.hok e2 kn
  have d0 := dn_H I2.hok e1 (fun _ h => nomatch h)
  refine call_update_dictH (knd := stK X.prog X.w) (kvs := raw []) (more := raw xs) (by show _ < cLine; exact tupleKind_room_in1 (knd := optKind X.prog X.w) hu) hne h7 d0 dd (.inr ⟨keyed_apart tupleKind_stays dd, ?_⟩) (by rw [raw_length, raw_length, List.length_nil, Nat.zero_add]; exact h8) fun h' hd' ho' hs => ?_
  · unfold raw
    rw [List.map_map]
    exact nd
  · have er : storedAllH (raw []) (raw xs) = raw xs := storedAllH_nil_of_nodup _ dd.nodup
    rw [er] at hd'
    obtain ⟨ep', new⟩ := dn_of (H := upd H2 a (DN X.prog X.w a xs 0)) hd' h6 h9 h8
    have he : ∃ q, h'.get? a = some q := let ⟨q, _, _, hq, _⟩ := hd'; ⟨q, hq⟩
    exact ⟨.non, upd H2 a (DN X.prog X.w a xs ep'), dn_write (t' := s2.toks) I2 e1 hs he ⟨new.1, new.2.1, new.2.2⟩, rfl, q2 ep'⟩
end Fo
end
section
set_option Elab.async false
set_option linter.all false
set_option maxRecDepth 100000
set_option maxHeartbeats 4000000
/-! A comprehension whose turns leave all that stands. -/
namespace Fo
open PySem PySem.Spec PyProof.Rows L2
/-- all but a stays -/
def SmX (a : Addr) (H H' : Hp) : Prop := ∀ b u, b ≠ a → H b = some u → H' b = some u
theorem Same.x {H H' : Hp} (h : Same H H') (a : Addr) : SmX a H H' := fun b u _ e => h b u e
theorem SmX.refl (a : Addr) (H : Hp) : SmX a H H := fun _ _ _ e => e
theorem SmX.trans {a : Addr} {H H1 H2 : Hp} (h : SmX a H H1) (k : SmX a H1 H2) : SmX a H H2 := fun b u n e => k b u n (h b u n e)
theorem SmX.put {a : Addr} {H H' : Hp} (h : SmX a H H') {o : HO} : SmX a H (upd H' a o) := fun b u n e => by rw [upd_ne n]; exact h b u n e
theorem SmX.at {a b : Addr} {H H' : Hp} {o u : HO} (h : SmX a H H') (ha : H a = some o) (hb : H b = some u) (d : u ≠ o) : H' b = some u := h b u (ne_of hb ha d) hb
theorem SmX.new {a p : Addr} {H H' : Hp} {o : HO} (h : SmX a H H') (hp : H' p = none) : SmX a H (upd H' p o) := fun b u n e => by
  have := h b u n e
  rw [upd_ne (ne_of_none this hp)]
  exact this
theorem Same.put {H H1 : Hp} {p : Addr} {o o' : HO} (hp : H p = none) (h : Same (upd H p o) H1) : Same H (upd H1 p o') := fun b u e => by
  have n : b ≠ p := ne_of_none e hp
  rw [upd_ne n]
  exact h b u (by rw [upd_ne n]; exact e)
section
variable {J : It} {n : Nat} {G : Hp → Prop} {Y : Nat → Hp → V → Hp → Prop}
/-- a comprehension: each turn leaves all but what S tells (and the new list) as it stood -/
theorem lc_S (w : Walk J n G Y) {g : TG} {tt : TT} {te : TE} {vs : List Nat} {σ : L2.St} {H1 : Hp} {D : Addr} {Qd : Hp → Prop} (hD : H1 D = none) (S : Addr → Prop) (R : Nat → List V → Hp → Prop)
    (hx : ¬ S D) (hz : n < sizeLine)
    (hG : ∀ i acc H, (∀ b u, ¬ S b → H1 b = some u → H b = some u) → R i acc H → G H)
    (mono : ∀ i acc H H' ys, H D = some (.lst ys) → SmX D H H' → R i acc H → R i acc H')
    (h0 : R 0 [] (upd H1 D (.lst [])))
    (hs : ∀ i v H H' acc (Fin : V → Hp → Prop) (Skip : Hp → Prop), i < n → acc.length ≤ i → (∀ b u, ¬ S b → H1 b = some u → H b = some u) → H D = some (.lst acc) → R i acc H → Y i H v H' →
      (∀ y H4, (∀ b u, ¬ S b → H b = some u → H4 b = some u) → R (i + 1) (acc ++ [y]) H4 → Fin y H4) → (∀ H3, (∀ b u, ¬ S b → H b = some u → H3 b = some u) → R (i + 1) acc H3 → Skip H3) →
      g v (wipe σ vs) H' fun σ2 H2 => wipe σ2 vs = wipe σ vs ∧ tt σ2 H2 fun b H3 => if b = true then te σ2 H3 Fin else Skip H3)
    (hd : ∀ H acc, (∀ b u, ¬ S b → H1 b = some u → H b = some u) → acc.length ≤ n → H D = some (.lst acc) → R n acc H → Qd H) :
    ∃ W : Nat → Nat → Hp → Prop, (∃ m, W 0 m (upd H1 D (.lst []))) ∧ ∀ i m H, W i m H →
      (J.stop i H ∧ Qd H) ∨ (J.go i H ∧ ∃ Nx : Hp → Prop, (∀ H', Nx H' → ∃ m', m' < m ∧ W (i + 1) m' H') ∧ ∀ x H', J.yld i H x H' → g x (wipe σ vs) H' fun σ2 H2 => wipe σ2 vs = wipe σ vs ∧ tt σ2 H2 fun b H3 =>
        if b = true then te σ2 H3 fun y H4 => ∃ acc, H4 D = some (.lst acc) ∧ acc.length < sizeLine ∧ Nx (upd H4 D (.lst (acc ++ [y]))) else Nx H3) := by
  refine lc_it w (fun i H => ∃ acc, acc.length ≤ i ∧ (∀ b u, ¬ S b → H1 b = some u → H b = some u) ∧ H D = some (.lst acc) ∧ R i acc H) ?_ ?_ ?_ ?_
  · exact ⟨[], Nat.le_refl _, fun b u _ e => by rw [upd_ne (ne_of_none e hD)]; exact e, upd_same, h0⟩
  · rintro i H hi ⟨acc, _, k, _, r⟩
    exact hG i acc H k r
  · rintro i v H H' hi ⟨acc, hl, k, hl2, r⟩ y
    refine hs i v H H' acc _ _ hi hl k hl2 r y (fun z H4 k4 r4 => ?_) (fun H3 k3 r3 => ?_)
    · have h4 : H4 D = some (.lst acc) := k4 D _ hx hl2
      refine ⟨acc, h4, by omega, acc ++ [z], by rw [List.length_append]; exact Nat.add_le_add_right hl 1, fun b u nb e => ?_, upd_same, mono _ _ _ _ _ h4 (fun b u nb e => by rw [upd_ne nb]; exact e) r4⟩
      rw [upd_ne (ne_of_none e hD)]
      exact k4 b u nb (k b u nb e)
    · exact ⟨acc, Nat.le_succ_of_le hl, fun b u nb e => k3 b u nb (k b u nb e), k3 D _ hx hl2, r3⟩
  · rintro H ⟨acc, hl, k, hl2, r⟩
    exact hd H acc k hl hl2 r
/-- a comprehension whose turns leave all -/
theorem lc_same (w : Walk J n G Y) {g : TG} {tt : TT} {te : TE} {vs : List Nat} {σ : L2.St} {H1 : Hp} {D : Addr} {Qd : Hp → Prop} (hD : H1 D = none) (R : Nat → List V → Hp → Prop)
    (hz : n < sizeLine) (hG : ∀ H, Same H1 H → G H)
    (mono : ∀ i acc H H' ys, H D = some (.lst ys) → SmX D H H' → R i acc H → R i acc H')
    (h0 : R 0 [] (upd H1 D (.lst [])))
    (hs : ∀ i v H H' acc (Fin : V → Hp → Prop) (Skip : Hp → Prop), i < n → acc.length ≤ i → Same H1 H → R i acc H → Y i H v H' →
      (∀ y H4, Same H H4 → R (i + 1) (acc ++ [y]) H4 → Fin y H4) → (∀ H3, Same H H3 → R (i + 1) acc H3 → Skip H3) →
      g v (wipe σ vs) H' fun σ2 H2 => wipe σ2 vs = wipe σ vs ∧ tt σ2 H2 fun b H3 => if b = true then te σ2 H3 Fin else Skip H3)
    (hd : ∀ H acc, Same H1 H → acc.length ≤ n → H D = some (.lst acc) → R n acc H → Qd H) :
    ∃ W : Nat → Nat → Hp → Prop, (∃ m, W 0 m (upd H1 D (.lst []))) ∧ ∀ i m H, W i m H →
      (J.stop i H ∧ Qd H) ∨ (J.go i H ∧ ∃ Nx : Hp → Prop, (∀ H', Nx H' → ∃ m', m' < m ∧ W (i + 1) m' H') ∧ ∀ x H', J.yld i H x H' → g x (wipe σ vs) H' fun σ2 H2 => wipe σ2 vs = wipe σ vs ∧ tt σ2 H2 fun b H3 =>
        if b = true then te σ2 H3 fun y H4 => ∃ acc, H4 D = some (.lst acc) ∧ acc.length < sizeLine ∧ Nx (upd H4 D (.lst (acc ++ [y]))) else Nx H3) := by
  refine lc_S w hD (fun _ => False) R (fun h => h) hz (fun i acc H k _ => hG H fun b u e => k b u (fun h => h) e) mono h0 ?_ ?_
  · intro i v H H' acc Fin Skip hi hl k hl2 r y f1 f2
    exact hs i v H H' acc Fin Skip hi hl (fun b u e => k b u (fun h => h) e) r y (fun y H4 s r => f1 y H4 (fun b u _ e => s b u e) r) (fun H3 s r => f2 H3 (fun b u _ e => s b u e) r)
  · intro H acc k hl hl2 r
    exact hd H acc (fun b u e => k b u (fun h => h) e) hl hl2 r
end
abbrev iV (n : Nat) : V := .int ((n : Nat) : Int)
/-- the things at the addresses told by vs are tuples -/
def Tups (H : Hp) (vs : List V) (ts : List (List V)) : Prop := Paired (fun v t => ∃ p, v = .ref p ∧ H p = some (.tup t)) vs ts
theorem Tups.same {H H' : Hp} {vs : List V} {ts : List (List V)} (h : Tups H vs ts) (k : Same H H') : Tups H' vs ts := Paired.mapP h fun _ _ ⟨p, e, q⟩ => ⟨p, e, k _ _ q⟩
theorem Tups.but {H H' : Hp} {vs : List V} {ts : List (List V)} {S : Addr → Prop} (h : Tups H vs ts) (k : ∀ b u, ¬ S b → H b = some u → H' b = some u) (ns : ∀ b xs, H b = some (.tup xs) → ¬ S b) : Tups H' vs ts := Paired.mapP h fun _ _ ⟨p, e, q⟩ => ⟨p, e, k _ _ (ns _ _ q) q⟩
theorem Tups.x {H H' : Hp} {vs : List V} {ts : List (List V)} {a : Addr} (h : Tups H vs ts) (k : SmX a H H') (ns : ∀ xs, H a ≠ some (.tup xs)) : Tups H' vs ts := Paired.mapP h fun _ _ ⟨p, e, q⟩ => ⟨p, e, k _ _ (fun z => ns _ (z ▸ q)) q⟩
theorem Tups.snoc {H : Hp} {vs : List V} {ts : List (List V)} {p : Addr} {t : List V} (h : Tups H vs ts) (hp : H p = some (.tup t)) : Tups H (vs ++ [.ref p]) (ts ++ [t]) := Paired.snoc h ⟨p, rfl, hp⟩
/-- rows: a tuple of tuples of numbers -/
def Rows (H : Hp) (a : Addr) (rs : List (List Nat)) : Prop := ∃ vs, H a = some (.tup vs) ∧ Tups H vs (rs.map fun r => r.map iV)
theorem Rows.same {H H' : Hp} {a : Addr} {rs : List (List Nat)} (h : Rows H a rs) (k : Same H H') : Rows H' a rs := let ⟨vs, e, t⟩ := h; ⟨vs, k _ _ e, t.same k⟩
theorem Rows.but {H H' : Hp} {a : Addr} {rs : List (List Nat)} {S : Addr → Prop} (h : Rows H a rs) (k : ∀ b u, ¬ S b → H b = some u → H' b = some u) (ns : ∀ b xs, H b = some (.tup xs) → ¬ S b) : Rows H' a rs := let ⟨vs, e, t⟩ := h; ⟨vs, k _ _ (ns _ _ e) e, t.but k ns⟩
theorem Rows.x {H H' : Hp} {a : Addr} {rs : List (List Nat)} {b : Addr} (h : Rows H a rs) (k : SmX b H H') (ns : ∀ xs, H b ≠ some (.tup xs)) : Rows H' a rs := let ⟨vs, e, t⟩ := h; ⟨vs, k _ _ (fun z => ns _ (z ▸ e)) e, t.x k ns⟩
theorem Paired.at {α β : Type} {G : α → β → Prop} {l : List α} {m : List β} (h : Paired G l m) : ∀ {i : Nat} {b : β}, m[i]? = some b → ∃ a, l[i]? = some a ∧ G a b := by
  induction h with
  | nil => intro i b e; simp at e
  | cons r t ih =>
    intro i b e
    cases i with
    | zero => rw [List.getElem?_cons_zero] at e; cases e; exact ⟨_, rfl, r⟩
    | succ j => rw [List.getElem?_cons_succ] at e; rw [List.getElem?_cons_succ]; exact ih e
theorem Rows.at {H : Hp} {a : Addr} {rs : List (List Nat)} {i : Nat} {r : List Nat} (h : Rows H a rs) (hr : rs[i]? = some r) : ∃ vs p, H a = some (.tup vs) ∧ vs[i]? = some (.ref p) ∧ H p = some (.tup (r.map iV)) := by
  obtain ⟨vs, e, t⟩ := h
  have : (rs.map fun r => r.map iV)[i]? = some (r.map iV) := by rw [List.getElem?_map, hr]; rfl
  obtain ⟨v, hv, p, rfl, hp⟩ := Paired.at t this
  exact ⟨vs, p, e, hv, hp⟩
theorem Rows.len {H : Hp} {a : Addr} {rs : List (List Nat)} (h : Rows H a rs) : ∃ vs, H a = some (.tup vs) ∧ vs.length = rs.length := by
  obtain ⟨vs, e, t⟩ := h
  exact ⟨vs, e, by rw [Paired.length t, List.length_map]⟩
theorem take_snoc {α : Type} {xs : List α} {i : Nat} {x : α} (h : xs[i]? = some x) : xs.take (i + 1) = xs.take i ++ [x] := by
  rw [List.take_add_one, h]; rfl
theorem map_at {α β : Type} {f : α → β} {xs : List α} {i : Nat} {v : β} (h : (xs.map f)[i]? = some v) : ∃ x, xs[i]? = some x ∧ v = f x := by
  rw [List.getElem?_map] at h
  obtain ⟨x, h1, h2⟩ := Option.map_eq_some_iff.mp h
  exact ⟨x, h1, h2.symm⟩
theorem p2 (n : Nat) : ((2 ^ n : Nat) : Int) = (2 : Int) ^ n := by rw [Int.natCast_pow]; rfl
/-- a filter's next step -/
theorem filter_snoc {α : Type} {p : α → Bool} {xs : List α} {i : Nat} {x : α} (h : xs[i]? = some x) : (xs.take (i + 1)).filter p = (xs.take i).filter p ++ (if p x = true then [x] else []) := by
  rw [take_snoc h, List.filter_append]
  congr 1
  cases e : p x <;> simp [e]
end Fo
end
section
set_option Elab.async false
set_option linter.all false
set_option maxRecDepth 100000
set_option maxHeartbeats 4000000
/-! A display whose one key is a tuple; how long a table can be; a new instance. -/
namespace Fo
open PySem PySem.Spec PyProof.Rows L2
theorem sz1 : 1 ≤ sizeLine := by rw [sizeLine_eq]; omega
theorem sz2 : 2 ≤ sizeLine := by rw [sizeLine_eq]; omega
theorem made_same {H1 H' : Hp} {x dx : Addr} {o o' : HO} (hx : H1 x = none) (hdx : H1 dx = none) (h : SmX x (upd (upd H1 dx o) x o') H') : Same H1 H' := fun b u e => by
  have n1 := ne_of_none e hx
  have n2 := ne_of_none e hdx
  exact h b u n1 (by rw [upd_ne n1, upd_ne n2]; exact e)
theorem nodup_len {α : Type} [DecidableEq α] {l k : List α} (h1 : l.Nodup) (h : ∀ x ∈ l, x ∈ k) : l.length ≤ k.length := List.Nodup.length_le_of_subset h1 fun x hx => h x hx
/-- keys told apart, all of them among S -/
def KvOk {κ : Type} (S : List κ) (kvs : List (κ × V)) : Prop := (kvs.map (·.1)).Nodup ∧ ∀ p ∈ kvs, p.1 ∈ S
section
variable {κ : Type} [DecidableEq κ] {S : List κ} {kvs : List (κ × V)}
theorem KvOk.len (h : KvOk S kvs) : kvs.length ≤ S.length := by
  have := nodup_len h.1 (k := S) (fun x hx => by obtain ⟨p, hp, rfl⟩ := List.mem_map.mp hx; exact h.2 p hp)
  rwa [List.length_map] at this
theorem KvOk.nil : KvOk S ([] : List (κ × V)) := ⟨List.nodup_nil, fun _ h => nomatch h⟩
theorem keys_putK (k : κ) (v : V) : (putK kvs k v).map (·.1) = if (valV kvs k).isSome then kvs.map (·.1) else kvs.map (·.1) ++ [k] := by
  unfold putK
  rw [valV_any]
  by_cases e : (valV kvs k).isSome = true
  · rw [if_pos e, if_pos e, List.map_map]
    refine List.map_congr_left fun p _ => ?_
    show (if p.1 = k then (p.1, v) else p).1 = p.1
    by_cases z : p.1 = k
    · rw [if_pos z]
    · rw [if_neg z]
  · rw [if_neg e, if_neg e, List.map_append]; rfl
theorem valV_none_key {k : κ} (h : valV kvs k = none) : k ∉ kvs.map (·.1) := by
  induction kvs with
  | nil => intro z; exact nomatch z
  | cons p r ih =>
    by_cases e : p.1 = k
    · rw [valV_pos e] at h; cases h
    · rw [valV_neg e] at h
      rw [List.map_cons, List.mem_cons, not_or]
      exact ⟨fun z => e z.symm, ih h⟩
theorem KvOk.put (h : KvOk S kvs) {k : κ} (hk : k ∈ S) (v : V) : KvOk S (putK kvs k v) := by
  have e := keys_putK (kvs := kvs) k v
  constructor
  · rw [e]
    split
    · exact h.1
    · rename_i q
      have hn : valV kvs k = none := by
        cases z : valV kvs k with
        | none => rfl
        | some _ => rw [z] at q; exact (q rfl).elim
      exact List.nodup_append.mpr ⟨h.1, by simp, fun a ha b hb => by rw [List.mem_singleton.mp hb]; exact fun z => valV_none_key hn (z ▸ ha)⟩
  · intro p hp
    have : p.1 ∈ (putK kvs k v).map (·.1) := List.mem_map.mpr ⟨p, hp, rfl⟩
    rw [e] at this
    split at this
    · obtain ⟨q, hq, e2⟩ := List.mem_map.mp this; rw [← e2]; exact h.2 q hq
    · rcases List.mem_append.mp this with q | q
      · obtain ⟨r, hr, e2⟩ := List.mem_map.mp q; rw [← e2]; exact h.2 r hr
      · rw [List.mem_singleton.mp q]; exact hk
end
theorem disp_K {K : Type} [DecidableEq K] {prog : Program} {w : World} {A : Around} {E : Value → Shared → Prop} {s : Shared} {knd : HeapKind prog w K} {env : Env} {keys : List (Option Expr)} {values : List Expr} {pos : Pos} {pairs : List (Sem Value × Sem Value)} {Q : Value → Shared → Prop} (hu : knd.room A)
    (hshape : (evalEachOpt keys env).zip ((evalEach values env).map fun v => do let x ← v; standAt pos; pure x) = pairs.map fun p => (some p.1, p.2)) (h0 : pairs ≠ []) (hlen : pairs.length ≤ 15)
    (h : wpAny (model prog w) A (evalPairs pairs) (fun vs s₁ => ∃ ps, CarriesH knd s₁.heap vs ps ∧ s₁.heap.DictOfH knd s.heap.objs.size [] ∧
      ∀ h' tk, h'.DictOfH knd s.heap.objs.size (storedAllH [] ps) → Heap.SameBut s.heap.objs.size s₁.heap h' → Q (.ref s.heap.objs.size) { s₁ with heap := h', toks := tk }) E
      { s with heap := s.heap.push { cls := .type "dict", data := .dict #[] } }) :
    wpAny (model prog w) A (eval (.Dict keys values pos) env) Q E s := by
  rw [arm_eval_Dict, hshape, dictDisplay_pairs pairs h0 (by omega)]
  exact wpAny_bind (wpAny_standAt (wpAny_bind (wpAny_subDictH (knd := knd) (Q := fun d s' => wpAny (model prog w) A (pure (Value.ref d)) Q E s') hu hlen
    (wpAny_mono h (fun vs s₁ h₁ => by obtain ⟨ps, hc, hm, hq⟩ := h₁; exact ⟨ps, hc, hm, fun h' tk a b => wpAny_pure (hq h' tk a b)⟩) fun _ _ e => e))))
/-- {y: v}, y a tuple of numbers -/
def tDispT1 (tk tv : TE) : TE := fun σ H Q => ∀ p, H p = none → tk σ (upd H p (.dT [])) fun y H1 => tv σ H1 fun v H2 =>
  H2 p = some (.dT []) ∧ ∃ b k, y = .ref b ∧ H2 b = some (.tup (k.map kV)) ∧ Q (.ref p) (upd H2 p (.dT [(k, v)]))
theorem pe_dispT1 {X : Cx} {k v : Expr} {pos : Pos} {tk tv : TE} (hu : X.A.units + 1 < cLine) (hk : PE X k tk) (hv : PE X v tv) : PE X (.Dict [some k] [v] pos) (tDispT1 tk tv) := by
  refine ⟨fun pins s σ H Q I q => ?_⟩
  have hn := I.hok.fresh (Nat.le_refl s.heap.objs.size)
  have I1 := I.laid (a := s.heap.objs.size) (o := .dT []) (h' := s.heap.push { cls := .type "dict", data := .dict #[] }) (t' := s.toks) (fun _ _ q => Heap.get?_push_of_some _ q) (Nat.le_refl _) (dt_empty s.heap I.big)
  have hroom : (tupleKind (mixKind X.prog X.w)).room X.A := by
    show X.A.units < cLine
    omega
  refine disp_K (knd := tupleKind (mixKind X.prog X.w)) (pairs := pairTrees [some k] [v] X.env pos) hroom rfl (by simp [pairTrees]) (by simp [pairTrees]) ?_
  refine thn ((pps_cons hk hv pps_nil).run pins _ σ _ (fun ps H2 => match ps with
    | [(y, z)] => H2 s.heap.objs.size = some (.dT []) ∧ ∃ b k, y = .ref b ∧ H2 b = some (.tup (k.map kV)) ∧ Q (.ref s.heap.objs.size) (upd H2 s.heap.objs.size (.dT [(k, z)]))
    | _ => False) I1 (q _ hn)) fun ws s2 fin => ?_
  obtain ⟨ps, H2, I2, rel, fin⟩ := fin
  match ps, ws, rel, fin with
  | [(y, z)], [(u1, u2)], .cons h1 .nil, fin =>
    obtain ⟨e, b, kk, rfl, eb, q2⟩ := fin
    obtain ⟨r1, r2⟩ := h1
    cases (show u1 = Value.ref b from r1)
    obtain ⟨zl, hd, xs, rel0, dd⟩ := dt_of I2.hok e
    cases rel0
    refine ⟨[(kk, b, u2)], ⟨rfl, rfl, key_of I2.hok eb, True.intro⟩, dd, fun h' tk' dd' hs => ?_⟩
    obtain ⟨q0, es, ep, hq, h2, h3, h4, _, h5⟩ := dd'
    refine ⟨.ref _, upd H2 s.heap.objs.size (.dT [(kk, z)]), d_write I2 (by rw [e]; exact True.intro) hs ⟨q0, hq⟩ ⟨by rw [sizeLine_eq, List.length_cons, List.length_nil]; omega, hd, [(kk, b, u2)], .cons ⟨rfl, ?_, r2⟩ .nil, q0, es, ep, hq, h2, h3, h4, h5⟩, rfl, q2⟩
    rw [upd_ne (ne_of eb e (fun z => nomatch z))]
    exact eb
section
variable {X : Cx} {CX : CXT} {k : Nat} {sp : Sp} {E : XK} {x C m : Str} {p pos apos : Pos} {e o : Expr} {es : List Expr} {ta : TE} {t : TA}
/-- a method's call within a comprehension -/
theorem pe_mdK {K0 : PySem.W.Frag} {pl : Sem Bool} (D : Md X.prog X.w K0 X.mg X.base CX k C m sp) (hr : Room k X.A) (hx : Passes CX X E) (ho : PE X o ta) (ha : PA X (e :: es) t) (hk : X.K = K0 := by rfl)
    (hst : starEach (e :: es) X.env = (false, eval e X.env) :: starEach es X.env := by rfl) (hpl : (backTo pos (starEach es X.env)).any (·.1) = false := by rfl)
    (ht : eval (.Call (.Attribute o m apos) (e :: es) [] pos) X.env = (do
      let ov ← eval o X.env
      standAt apos.atName
      let (f, first) ← holding [ov] (getMethod ov m pl)
      callWith pos f first (backTo pos (starEach (e :: es) X.env)) (backToKw pos (keywordEach [] X.env))) := by rfl) :
    PE X (.Call (.Attribute o m apos) (e :: es) [] pos) (tMeth (He.ga K0 C) m sp [] E ta t) := by
  subst hk
  exact pe_md D hr hx ho ha hst hpl ht
end
end Fo
end
section
set_option Elab.async false
set_option linter.all false
set_option maxRecDepth 100000
set_option maxHeartbeats 4000000
/-! Rules whose reading names the frozen part by itself: for the elements of comprehensions. -/
namespace Fo
open PySem PySem.Spec PyProof.Rows L2
section
variable {X : Cx} {K : PySem.W.Frag}
theorem op_in_seqK (hk : X.K = K := by rfl) : OpR X (compareOp .In) (rIn K false) := by subst hk; exact op_in_seq
theorem op_notIn_seqK (hk : X.K = K := by rfl) : OpR X (compareOp .NotIn) (rIn K true) := by subst hk; exact op_notIn_seq
theorem ix_listK (hk : X.K = K := by rfl) : IxR X (rIxL K) := by subst hk; exact ix_list
theorem ix_tupK (hk : X.K = K := by rfl) : IxR X (rIxT K) := by subst hk; exact ix_tup
theorem pg_tupK {es : List Expr} {k : Nat} {pos : Pos} {t : TGs} {n : Nat} (hc : X.calm = true) (h : PGs X es t) (hk : X.K = K := by rfl)
    (hn : (assignEach es X.env).length = n := by rfl) (hst : (assignEach es X.env).findIdx? (·.1) = none := by rfl) : PG X (.Tuple es k pos) (gTup K n t) := by subst hk; exact pg_tup hc h hn hst
theorem pi_listK {tg l : Expr} {tl : TE} (hl : PE X l tl) (hk : X.K = K := by rfl) : PI X tg l (iList K tl) := by subst hk; exact pi_list hl
theorem pi_tupK {tg l : Expr} {tl : TE} (hl : PE X l tl) (hk : X.K = K := by rfl) : PI X tg l (iTup K tl) := by subst hk; exact pi_tup hl
theorem call_lenK (hk : X.K = K := by rfl) : CallR X (.builtin "len") (fun xs H Q => ∃ x n, xs = [x] ∧ LenV K x H n ∧ Q (.int n) H) := by subst hk; exact call_len
theorem call_tuple_ofK (hk : X.K = K := by rfl) : CallR X (.type "tuple") (fun xs H Q => ∃ p ys, xs = [.ref p] ∧ ((SqL K H p ys ∧ ∀ l, H l = none → Q (.ref l) (upd H l (.tup ys))) ∨ (SqT K H p ys ∧ Q (.ref p) H))) := by subst hk; exact call_tuple_of
theorem call_list_ofK (hk : X.K = K := by rfl) : CallR X (.type "list") (fun xs H Q => ∃ p ys, xs = [.ref p] ∧ (SqL K H p ys ∨ SqT K H p ys) ∧ ∀ l, H l = none → Q (.ref l) (upd H l (.lst ys))) := by subst hk; exact call_list_of
theorem cr_sortedK (hk : X.K = K := by rfl) : CallR X (.builtin "sorted") (rSorted K) := by subst hk; exact cr_sorted
theorem cr_setLK {w : World} (hc : X.calm = true) (hk : X.K = K := by rfl) (hw : X.w = w := by rfl) : CallR X (.type "set") (rSetL K w) := by subst hk hw; exact cr_setL hc
theorem cr_sortedSetK {w : World} (hc : X.calm = true) (hw : X.w = w := by rfl) : CallR X (.builtin "sorted") (rSortedSet w) := by subst hw; exact cr_sortedSet hc
theorem op_catAK (hk : X.K = K := by rfl) : OpR X (binaryOp .Add) (rCatA K) := by subst hk; exact op_catA
theorem pe_fldK {e : Expr} {f : Str} {pos : Pos} {ta : TE} (he : PE X e ta) (hb : attributeBase e f X.env (eval e X.env) = eval e X.env) (hk : X.K = K := by rfl) : PE X (.Attribute e f pos) (tFld K ta f) := by subst hk; exact pe_fld he hb
end
theorem same_fresh {H H1 H2 : Hp} {a : Addr} (h0 : H a = none) (s1 : Same H H1) (s2 : SmX a H1 H2) : Same H H2 := fun b u e => s2 b u (ne_of_none e h0) (s1 b u e)
theorem walk_rangeN {n : Nat} : Walk (Itr 0 n) n (fun _ => True) (YFn fun i => iV i) :=
  ⟨fun _ _ hi _ => hi, fun _ _ => Nat.le_refl _, fun i _ _ _ _ _ y => ⟨y.1, y.2.trans (congrArg V.int (Int.zero_add _))⟩⟩
section
variable {K : PySem.W.Frag} {H : Hp} {a b : Addr} {xs ys : List V} {Q : VK}
/-- t[:k], t[k:] -/
theorem slA_to {k : Nat} (ha : H a = some (.tup xs)) (hk : k ≤ xs.length) (h : ∀ H' p, Same H H' → H' p = some (.tup (xs.take k)) → Q (.ref p) H') : rSlA K (.ref a) none (some (k : Int)) H Q := by
  refine ⟨a, xs, rfl, SqT.of ha, fun e => ?_, fun _ p hp => ?_⟩
  · rw [HT.sIx_nat] at e
    have : k = xs.length := by have := e.2; omega
    exact h H a (Same.refl _) (by rw [this, List.take_length]; exact ha)
  · refine h _ p (Same.new hp) ?_
    rw [upd_same]
    unfold cutV
    rw [HT.sIx_nat, HT.sIx_none, List.drop_zero, Nat.sub_zero, Nat.min_eq_left hk]
theorem slA_from {k : Nat} (ha : H a = some (.tup xs)) (h : ∀ H' p, Same H H' → H' p = some (.tup (xs.drop k)) → Q (.ref p) H') : rSlA K (.ref a) (some (k : Int)) none H Q := by
  refine ⟨a, xs, rfl, SqT.of ha, fun e => ?_, fun _ p hp => ?_⟩
  · rw [HT.sIx_nat] at e
    have : min k xs.length = 0 := e.1
    refine h H a (Same.refl _) ?_
    rcases Nat.eq_zero_or_pos k with z | z
    · rw [z, List.drop_zero]; exact ha
    · have : xs.length = 0 := by omega
      have : xs = [] := List.eq_nil_of_length_eq_zero this
      subst this
      rw [List.drop_nil]; exact ha
  · refine h _ p (Same.new hp) ?_
    rw [upd_same]
    unfold cutV
    rw [HT.sIx_nat, HT.sIx_none]
    by_cases hk : k ≤ xs.length
    · rw [Nat.min_eq_left hk, List.take_of_length_le (by rw [List.length_drop]; omega)]
    · rw [Nat.min_eq_right (by omega), List.drop_length, List.drop_of_length_le (by omega), List.take_nil]
theorem slN_from {σ : L2.St} {k : Nat} (ha : H a = some (.tup xs)) (h : ∀ H' p, Same H H' → H' p = some (.tup (xs.drop k)) → Q (.ref p) H') : tNoPart σ H (fun u H3 => rSlA K (.ref a) (some (k : Int)) u H3 Q) := slA_from ha h
theorem catA_to (ha : H a = some (.tup xs)) (hb : H b = some (.tup ys)) (hz : xs.length + ys.length ≤ 1000) (h : ∀ H' p, Same H H' → H' p = some (.tup (xs ++ ys)) → Q (.ref p) H') : rCatA K (.ref a) (.ref b) H Q := by
  refine ⟨a, b, xs, ys, rfl, rfl, SqT.of ha, SqT.of hb, Nat.le_of_lt (small1000 hz), fun e => ?_, fun _ e => ?_, fun _ _ p hp => h _ p (Same.new hp) upd_same⟩
  · subst e; exact h H b (Same.refl _) hb
  · subst e; exact h H a (Same.refl _) (by rw [List.append_nil]; exact ha)
end
end Fo
end
section
set_option Elab.async false
set_option linter.all false
set_option maxRecDepth 100000
set_option maxHeartbeats 4000000
/-! Own errors without words; calls that may raise. -/
namespace Fo
open PySem PySem.Spec PyProof.Rows L2
/-- an own class of errors over ValueError, without its own __init__ -/
structure ExK (K : PySem.W.Frag) (mg : Str → Option Value) (x : Str) : Prop where
  gl : mg x = some (.ref (He.ga K x))
  ex : PySem.W.excIn K (He.ga K x) [.type "ValueError", .type "Exception", .type "BaseException", .type "object"] "ValueError.__new__" = true
  kp : PySem.W.keepIn K (.ref (He.ga K x)) = true
  sb : PySem.W.subIn K (.ref (He.ga K x)) (.type "BaseException") = some true
  ty : PySem.W.typeIn K (.ref (He.ga K x)) = some (.type "type")
section
variable {X : Cx} {CX : CXT} {k : Nat} {sp : Sp} {E : L2.St → XK} {x : Str} {p pos : Pos} {e : Expr} {es : List Expr} {t : TA}
/-- X() -/
theorem pmk_own0 (T : ExK X.K X.mg x) (hg : Gl X x) (hdb : (x == ("__debug__" : Str)) = false := by decide) : L2N.PMk X (.Call (.Name x p) [] [] pos) (fun σ H Q => Q (.ref (He.ga X.K x)) none H) := by
  intro pins s σ H Q I h
  refine wpAny_Call_Name_kw (ld_glob I hg T.gl ?_ hdb)
  refine PySem.W.callWith_K0 I.kIn T.kp ?_
  show wpAny _ _ (call (.ref (He.ga X.K x)) []) _ _ _
  obtain ⟨bm, N, nm, qn, bs, hdct, sn, sub, ab, col, dd, k0, k1, k2, k3, k5, mN, hC, hN, hni, O⟩ := exc_obj I.kIn T.ex
  refine wpAny_call_exc_subT PySem.F.excBase_ValueError O hC hN hni (fun h' e hm => ?_) (by rw [sizeLine_eq]; exact Nat.zero_le _)
  exact L2N.mk_of I hm (raises_own T.sb T.ty) h (I.hok.gone hm.new)
/-- a def of the module that may raise -/
theorem pe_fnS (D : Fn X.prog X.w X.K X.mg X.base CX k x sp) (hr : Room k X.A) (hg : Gl X x) (hx : ∀ σ, PassesAt CX X σ (E σ)) (ha : PA X (e :: es) t) (hdb : (x == ("__debug__" : Str)) = false := by decide) (he : starEach (e :: es) X.env = (false, eval e X.env) :: starEach es X.env := by rfl)
    (hpl : (backTo pos (starEach es X.env)).any (·.1) = false := by rfl) : PE X (.Call (.Name x p) (e :: es) [] pos) (tCallS sp E t) := by
  obtain ⟨fd, ps, F, b⟩ := D.ok
  exact pe_callS F hr hg D.gl D.kp b hx ha hdb he hpl
end
/-- what a call lets out is nothing -/
theorem passN {X : Cx} : Passes (L2N.CX X.prog X.w) X E0 := fun _ _ _ _ _ _ _ h => let ⟨_, _, _, _, _, _, _, _, _, _, _, _, z⟩ := h; z.elim
structure Hx (K : PySem.W.Frag) (mg : Str → Option Value) : Prop where
  x_NoTurn : ExK K mg "NoTurn"
  x_Stuck : ExK K mg "Stuck"
theorem lay_ints (ns : List Int) : PyData.canLayAll0 (ns.map .int) = true := by
  induction ns with
  | nil => simp [PyData.canLayAll0]
  | cons x ns ih => simp [PyData.canLayAll0, PyData.canLay0, ih]
theorem dp_ints {K : PySem.W.Frag} {H : Hp} (ns : List Int) : DpAll K H (ns.map V.int) (ns.map PyData.int) := by
  induction ns with
  | nil => exact .nil
  | cons x ns ih => exact .cons (.int x) ih
theorem eqv_int_refl (ns : List Int) : PyData.eqv (.list (ns.map .int)) (.list (ns.map .int)) = true := by
  rw [PyData.eqv]
  induction ns with
  | nil => simp [PyData.eqvAll]
  | cons x ns ih => simp [PyData.eqvAll, PyData.eqv, ih]
theorem eqL_same {K : PySem.W.Frag} {H : Hp} {a b : Addr} {ns : List Int} {Q : VK} (ha : H a = some (.lst (ns.map V.int))) (hb : H b = some (.lst (ns.map V.int))) (q : Q (.bl true) H) : rEqD K (.ref a) (.ref b) H Q := by
  have hl : (PyData.list (ns.map .int)).canLay0 = true := by rw [PyData.canLay0]; exact lay_ints ns
  have hs : SeqAt.shaped (PyData.list (ns.map .int)) = true := by
    show (_ && _) = true
    rw [hl, Bool.true_and]
    refine decide_eq_true ?_
    rw [PyData.depth, PySem.W.depth_ints]
    decide
  refine ⟨.list (ns.map .int), .list (ns.map .int), .lst (SqL.of ha) (dp_ints ns), .lst (SqL.of hb) (dp_ints ns), hs, hs, ?_⟩
  rw [eqv_int_refl ns]
  exact q
/-- two pairs of numbers compared -/
theorem eqP_pair {K : PySem.W.Frag} {H : Hp} {a b : Addr} {i j i' j' : Int} {Q : VK} (ha : H a = some (.tup [.int i, .int j])) (hb : H b = some (.tup [.int i', .int j'])) (q : Q (.bl (decide (i = i' ∧ j = j'))) H) : rEqD K (.ref a) (.ref b) H Q := by
  refine ⟨.tuple ([i, j].map .int), .tuple ([i', j'].map .int), .tup (SqT.of ha) (dp_ints [i, j]), .tup (SqT.of hb) (dp_ints [i', j']), rfl, rfl, ?_⟩
  have : PyData.eqv (.tuple ([i, j].map .int)) (.tuple ([i', j'].map .int)) = decide (i = i' ∧ j = j') := by
    simp [PyData.eqv, PyData.eqvAll]
    rfl
  rw [this]
  exact q
end Fo
end
section
set_option Elab.async false
set_option linter.all false
set_option maxRecDepth 100000
set_option maxHeartbeats 4000000
/-! A def made in a def that has ended: its cells are told in the heap; the call of it by a local name. -/
namespace Fo
open PySem PySem.Spec PyProof.Rows L2 LamX NdefX
/-- a cell that holds v -/
def CellO (c : Addr) (v : V) : HO := .ext fun h => ∃ u, L2.RelV v u ∧ h.IsCell c (some u)
theorem cellO_new {P : Program} {w : World} {H : Hp} {h : Heap} {c : Addr} {v : V} {u : Value} (r : L2.RelV v u) (e : h.IsCell c (some u)) : ObjOk P w H h c (CellO c v) := by
  obtain ⟨o, ho, hd⟩ := id e
  refine ⟨⟨u, r, e⟩, ⟨o, ho⟩, fun h1 h2 q k => ?_⟩
  obtain ⟨u', r', o', ho', hd'⟩ := q
  exact ⟨u', r', o', k _ ho', hd'⟩
def del2 (H : Hp) (a b : Addr) : Hp := fun c => if c = a ∨ c = b then none else H c
def add2 (H : Hp) (a b : Addr) (o u : HO) : Hp := fun c => if c = a then some o else if c = b then some u else H c
theorem del2_ne {H : Hp} {a b c : Addr} (h1 : c ≠ a) (h2 : c ≠ b) : del2 H a b c = H c := if_neg (fun z => z.elim h1 h2)
theorem add2_ne {H : Hp} {a b c : Addr} {o u : HO} (h1 : c ≠ a) (h2 : c ≠ b) : add2 H a b o u c = H c := by unfold add2; rw [if_neg h1, if_neg h2]
structure PickAt (H : Hp) (f : Addr) (F : NF) (n1 n2 : Str) (c1 c2 : Addr) (v1 v2 : V) : Prop where
  fn : H f = some (FnO f F)
  code : H F.c = some (CodeO F.c F.qual)
  cl : F.cl = [(n2, c2), (n1, c1)]
  ne : c1 ≠ c2
  at1 : H c1 = some (CellO c1 v1)
  at2 : H c2 = some (CellO c2 v2)
theorem PickAt.same {H H' : Hp} {f : Addr} {F : NF} {n1 n2 : Str} {c1 c2 : Addr} {v1 v2 : V} (p : PickAt H f F n1 n2 c1 c2 v1 v2) (k : Same H H') : PickAt H' f F n1 n2 c1 c2 v1 v2 := ⟨k _ _ p.fn, k _ _ p.code, p.cl, p.ne, k _ _ p.at1, k _ _ p.at2⟩
theorem PickAt.kl {H H' : Hp} {f : Addr} {F : NF} {n1 n2 : Str} {c1 c2 : Addr} {v1 v2 : V} (p : PickAt H f F n1 n2 c1 c2 v1 v2) (k : ∀ b u, (∀ xs, u ≠ HO.lst xs) → H b = some u → H' b = some u) : PickAt H' f F n1 n2 c1 c2 v1 v2 :=
  ⟨k _ _ (fun _ z => nomatch z) p.fn, k _ _ (fun _ z => nomatch z) p.code, p.cl, p.ne, k _ _ (fun _ z => nomatch z) p.at1, k _ _ (fun _ z => nomatch z) p.at2⟩
section
variable {P : Program} {w : World} {H H2 : Hp} {h h' : Heap} {c1 c2 : Addr} {v1 v2 : V}
theorem hok_del (ok : HOk P w H h) (e1 : H c1 = some (CellO c1 v1)) (e2 : H c2 = some (CellO c2 v2)) : HOk P w (del2 H c1 c2) h := fun a o e => by
  have n : ¬ (a = c1 ∨ a = c2) := fun z => by unfold del2 at e; rw [if_pos z] at e; cases e
  have e' : H a = some o := by unfold del2 at e; rwa [if_neg n] at e
  refine (ok a o e').stay (fun b u _ q => q) (fun b q => ?_) (fun b xs q => ?_)
  · rw [del2_ne (fun z => by rw [z, e1] at q; cases q) (fun z => by rw [z, e2] at q; cases q)]; exact q
  · rw [del2_ne (fun z => by rw [z, e1] at q; cases q) (fun z => by rw [z, e2] at q; cases q)]; exact q
theorem hok_add (ok : HOk P w H2 h') (n1 : H2 c1 = none) (n2 : H2 c2 = none) (o1 : ∃ u, L2.RelV v1 u ∧ h'.IsCell c1 (some u)) (o2 : ∃ u, L2.RelV v2 u ∧ h'.IsCell c2 (some u)) : HOk P w (add2 H2 c1 c2 (CellO c1 v1) (CellO c2 v2)) h' := fun a o e => by
  unfold add2 at e
  by_cases q1 : a = c1
  · rw [if_pos q1] at e; cases e
    subst q1
    obtain ⟨u, r, z⟩ := o1
    exact cellO_new r z
  rw [if_neg q1] at e
  by_cases q2 : a = c2
  · rw [if_pos q2] at e; cases e
    subst q2
    obtain ⟨u, r, z⟩ := o2
    exact cellO_new r z
  rw [if_neg q2] at e
  refine (ok a o e).stay (fun b u _ q => q) (fun b q => ?_) (fun b xs q => ?_)
  · rw [add2_ne (fun z => by rw [z, n1] at q; cases q) (fun z => by rw [z, n2] at q; cases q)]; exact q
  · rw [add2_ne (fun z => by rw [z, n1] at q; cases q) (fun z => by rw [z, n2] at q; cases q)]; exact q
theorem un_add {fs : List Addr} (un : Un fs [] (del2 H c1 c2) H2 h h') (e1 : H c1 = some (CellO c1 v1)) (e2 : H c2 = some (CellO c2 v2)) : Un fs [] H (add2 H2 c1 c2 (CellO c1 v1) (CellO c2 v2)) h h' where
  keep := fun b o q n hb hx => un.keep b o q (by rw [del2_ne (fun z => by rw [z, e1] at n; cases n) (fun z => by rw [z, e2] at n; cases n)]; exact n) hb hx
  slot := fun b o q n hb hx => un.slot b o q (by rw [del2_ne (fun z => by rw [z, e1] at n; cases n) (fun z => by rw [z, e2] at n; cases n)]; exact n) hb hx
  free := fun b o q n hx => by
    have m1 : b ≠ c1 := fun z => by rw [z, e1] at n; cases n
    have m2 : b ≠ c2 := fun z => by rw [z, e2] at n; cases n
    rw [add2_ne m1 m2]
    exact un.free b o q (by rw [del2_ne m1 m2]; exact n) hx
  there := fun b o q hx => un.there b o q hx
  tups := fun b xs q => by
    have m1 : b ≠ c1 := fun z => by rw [z, e1] at q; cases q
    have m2 : b ≠ c2 := fun z => by rw [z, e2] at q; cases q
    rw [add2_ne m1 m2]
    exact un.tups b xs (by rw [del2_ne m1 m2]; exact q)
  frzs := fun b o u q => by
    have m1 : b ≠ c1 := fun z => by rw [z, e1] at q; cases q
    have m2 : b ≠ c2 := fun z => by rw [z, e2] at q; cases q
    rw [add2_ne m1 m2]
    exact un.frzs b o u (by rw [del2_ne m1 m2]; exact q)
  tbls := fun b ps q => by
    have m1 : b ≠ c1 := fun z => by rw [z, e1] at q; cases q
    have m2 : b ≠ c2 := fun z => by rw [z, e2] at q; cases q
    obtain ⟨more, z⟩ := un.tbls b ps (by rw [del2_ne m1 m2]; exact q)
    exact ⟨more, by rw [add2_ne m1 m2]; exact z⟩
end
section
variable {X : Cx} {pins : List (Addr × Obj)} {σ : L2.St} {H : Hp} {s : Shared} {f : Addr} {F : NF} {n1 n2 : Str} {c1 c2 : Addr} {v1 v2 : V} {k j i : Nat} {ps : List Str} {sp : V → V → Sp} {Q : VK} {us : List Value} {vs : List V}
/-- a promise by what the two cells hold -/
def spCells (sp : V → V → Sp) : List (Option V) → Sp := fun ws => match ws with
  | [some a, some b] => sp a b
  | _ => fun _ _ _ _ => False
theorem run_P (Fn : NOk X.prog X.w X.K X.mg X.base CX0 k f F ps [n1, n2] (spCells sp)) (hr : Room k X.A) (I : Inv X pins σ H s) (hn : n1 ≠ n2) (pk : PickAt H f F n1 n2 c1 c2 v1 v2) (hf1 : f ≠ c1) (hf2 : f ≠ c2) (hg1 : F.c ≠ c1) (hg2 : F.c ≠ c2) (r : Vals vs us)
    (q : sp v1 v2 vs (del2 H c1 c2) (fun v H2 => ∀ H4, H4 = add2 H2 c1 c2 (CellO c1 v1) (CellO c2 v2) → Q v H4) E0) : wpAny (model X.prog X.w) X.A (call (.ref f) us) (EP X pins σ Q) X.xe s := by
  have e0 := I.env0
  have nfr : ∀ b o, H b = some o → b ∉ frs X.stack := fun b o e z => by rw [e0.frf b z] at e; cases e
  obtain ⟨u1, r1, q1⟩ := (I.hok c1 _ pk.at1).1
  obtain ⟨u2, r2, q2⟩ := (I.hok c2 _ pk.at2).1
  have ndel : ∀ b, H b = none → del2 H c1 c2 b = none := fun b e => by unfold del2; split <;> first | rfl | exact e
  have e1 : Env0 X.prog X.w X.K X.mg X.base X.A X.stack s (del2 H c1 c2) := ⟨e0.frames, e0.mod, fun b o e => ⟨(e0.bs b o e).1, ndel b (e0.bs b o e).2⟩, e0.bsz, e0.funs, fun b z => ndel b (e0.frf b z), hok_del e0.hok pk.at1 pk.at2, e0.bare⟩
  have lk2 : F.cl.lookup n2 = some c2 := by rw [pk.cl]; simp [List.lookup]
  have lk1 : F.cl.lookup n1 = some c1 := by
    rw [pk.cl]
    have : (n1 == n2) = false := beq_eq_false_iff_ne.mpr hn
    simp [List.lookup, this]
  have lkc : ∀ y c, F.cl.lookup y = some c → (y = n1 ∧ c = c1) ∨ (y = n2 ∧ c = c2) := fun y c e => by
    rw [pk.cl] at e
    by_cases z : y = n2
    · subst z; simp [List.lookup] at e; exact .inr ⟨rfl, e.symm⟩
    · have b1 : (y == n2) = false := beq_eq_false_iff_ne.mpr z
      by_cases z2 : y = n1
      · subst z2; simp [List.lookup, b1] at e; exact .inl ⟨rfl, e.symm⟩
      · have b2 : (y == n1) = false := beq_eq_false_iff_ne.mpr z2
        simp [List.lookup, b1, b2] at e
  have C : CellsAt F.cl [n1, n2] [some v1, some v2] s.heap (del2 H c1 c2) := by
    refine ⟨rfl, fun y c e => ?_, fun x y c ex ey => ?_, fun i y e => ?_⟩
    · rcases lkc y c e with ⟨_, rfl⟩ | ⟨_, rfl⟩
      · exact ⟨if_pos (.inl rfl), _, q1⟩
      · exact ⟨if_pos (.inr rfl), _, q2⟩
    · rcases lkc x c ex with ⟨rfl, z1⟩ | ⟨rfl, z1⟩ <;> rcases lkc y c ey with ⟨rfl, z2⟩ | ⟨rfl, z2⟩
      · rfl
      · exact absurd (z1.symm.trans z2) pk.ne
      · exact absurd (z2.symm.trans z1) pk.ne
      · rfl
    · match i, e with
      | 0, e => cases e; exact ⟨c1, lk1, fun v ev => by cases ev; exact ⟨u1, r1, q1⟩⟩
      | 1, e => cases e; exact ⟨c2, lk2, fun v ev => by cases ev; exact ⟨u2, r2, q2⟩⟩
  have hff : del2 H c1 c2 f = some (FnO f F) := by rw [del2_ne hf1 hf2]; exact pk.fn
  have hgg : del2 H c1 c2 F.c = some (CodeO F.c F.qual) := by rw [del2_ne hg1 hg2]; exact pk.code
  refine wpAny_call (codeAny_mono (Fn.run X.A X.stack s (del2 H c1 c2) us vs [some v1, some v2] _ E0 hr e1 hff hgg C r q) fun rr s' hq => ?_)
  have fin : ∀ u, CE X.stack X.prog X.w (del2 H c1 c2) s (fun v H2 => ∀ H4, H4 = add2 H2 c1 c2 (CellO c1 v1) (CellO c2 v2) → Q v H4) u s' → EP X pins σ Q u s' := fun u hce => by
    obtain ⟨v, H', os, bare, un, hok, rv, qq⟩ := hce
    refine I.after ⟨v, _, os, bare, un_add un pk.at1 pk.at2, ?_, rv, qq _ rfl⟩
    have cell : ∀ c u, (c = c1 ∨ c = c2) → H c ≠ none → s.heap.IsCell c (some u) → s'.heap.IsCell c (some u) ∧ H' c = none := fun c u hc hn ⟨o, ho, hd⟩ => by
      have n0 : del2 H c1 c2 c = none := if_pos hc
      refine ⟨⟨o, un.keep c o ho n0 (fun z => hn (e0.frf c z)) (by simp), hd⟩, un.free c o ho n0 (by simp)⟩
    obtain ⟨a1, a2⟩ := cell c1 u1 (.inl rfl) (by rw [pk.at1]; exact fun z => nomatch z) q1
    obtain ⟨b1, b2⟩ := cell c2 u2 (.inr rfl) (by rw [pk.at2]; exact fun z => nomatch z) q2
    exact hok_add hok a2 b2 ⟨u1, r1, a1⟩ ⟨u2, r2, b1⟩
  cases rr with
  | error e => exact False.elim hq
  | ok fl =>
    cases fl with
    | ret u => exact fin u hq
    | next => exact False.elim hq
    | brk => exact False.elim hq
    | cont => exact False.elim hq
/-- f(e, ..), f a local name that holds such a def -/
def tCallP (i : Nat) (G : NF → Prop) (n1 n2 : Str) (sp : V → V → Sp) (t : TA) : TE := fun σ H Q => ∃ f F c1 c2 v1 v2, σ[i]? = some (some (.ref f)) ∧ G F ∧ PickAt H f F n1 n2 c1 c2 v1 v2 ∧
  t σ H fun vs H1 => PickAt H1 f F n1 n2 c1 c2 v1 v2 ∧ sp v1 v2 vs (del2 H1 c1 c2) (fun v H2 => ∀ H4, H4 = add2 H2 c1 c2 (CellO c1 v1) (CellO c2 v2) → Q v H4) E0
theorem pe_callP {G : NF → Prop} {x : Str} {p pos : Pos} {e : Expr} {es : List Expr} {t : TA} (Fn : ∀ f F, G F → NOk X.prog X.w X.K X.mg X.base CX0 k f F ps [n1, n2] (spCells sp)) (hr : Room k X.A) (hn : n1 ≠ n2) (hN : X.N[i]? = some x) (hv : Vis X.env.scope x) (ha : PA X (e :: es) t)
    (hd : (x == ("__debug__" : Str)) = false := by decide) (hcd : (x == ("__classdict__" : Str)) = false := by decide)
    (he : starEach (e :: es) X.env = (false, eval e X.env) :: starEach es X.env := by rfl) (hpl : (backTo pos (starEach es X.env)).any (·.1) = false := by rfl) :
    PE X (.Call (.Name x p) (e :: es) [] pos) (tCallP i G n1 n2 sp t) := by
  refine ⟨fun pins s σ H Q I h => ?_⟩
  obtain ⟨f, F, c1, c2, v1, v2, hs, hG, pk, ht⟩ := h
  refine wpAny_Call_Name_kw (thn ((pe_var (pos := p) hN hv hd hcd).run pins s σ H (fun v H1 => v = .ref f ∧ H1 = H) I ⟨.ref f, hs, rfl, rfl⟩) fun u s1 ⟨v, H1, I1, r1, q1⟩ => ?_)
  obtain ⟨ev, eH⟩ := q1
  subst ev
  rw [eH] at I1
  obtain rfl : u = Value.ref f := r1
  refine PySem.W.callWith_F (first := []) (fnAt_of I1 pk.fn) (thn (ha.run pos pins s1 σ H _ I1 ht) fun us s2 ⟨vs, H2, I2, r, pk2, q⟩ => ⟨fnAt_of I2 pk2.fn, ?_⟩) he hpl
  show wpAny _ _ (call (.ref f) us) _ _ _
  have nf : ∀ (c : Addr) (v : V), H2 c = some (CellO c v) → f ≠ c := fun c v e z => by
    subst z
    obtain ⟨od, sl, doc, pm, ctv, ho⟩ := fnO_at I2.hok pk2.fn
    obtain ⟨u, _, o, ho2, hd2⟩ := (I2.hok f _ e).1
    rw [ho] at ho2
    cases ho2
    cases hd2
  have ng : ∀ (c : Addr) (v : V), H2 c = some (CellO c v) → F.c ≠ c := fun c v e z => by
    obtain ⟨c0, oc, vs, t, ec, ho, hd, _⟩ := codeO_at I2.hok pk2.code
    obtain ⟨u, _, o, ho2, hd2⟩ := (I2.hok c _ e).1
    cases ec
    rw [← z, ho] at ho2
    cases ho2
    rw [hd] at hd2
    cases hd2
  exact run_P (Fn f F hG) hr I2 hn pk2 (nf _ _ pk2.at1) (nf _ _ pk2.at2) (ng _ _ pk2.at1) (ng _ _ pk2.at2) r q
end
section
variable {P : Program} {w : World} {K : PySem.W.Frag} {mg : Str → Option Value} {base : Heap} {x qual : Str} {params : Arguments} {body : List Stmt} {scope : Scope} {dvs : List V} {kws : List (Str × V)} {f : Addr} {fd : FuncData}
/-- a def that makes a def and gives it back: its two cells are told from there on -/
theorem cells_ok {CX : CXT} {N ps : List Str} {k i j m : Nat} {sp : Sp} {n1 n2 nf : Str} {p pos : Pos} {s1 : Stmt} (F : FunD K x qual params body scope dvs kws f fd) (S : FnScope N ps scope) (len : ∀ vs H Q E, sp vs H Q E → vs.length = ps.length)
    (hbd : body = [s1, .Return (some (.Name nf p)) pos]) (hi : N[i]? = some n1) (hj : N[j]? = some n2) (hm : N[m]? = some nf) (c1 : scope.names.lookup n1 = some .cell) (c2 : scope.names.lookup n2 = some .cell) (hv : scope.names.lookup nf = some .local) (hn : n1 ≠ n2)
    (hd : (nf == ("__debug__" : Str)) = false) (hcd : (nf == ("__classdict__" : Str)) = false)
    (hbody : ∀ (cdv : Value) (A : Around) (outer : List Env) (s : Shared) (H : Hp) (vs : List V) (Q : VK) (E : XK), PySem.W.codeIn K cdv qual = true → (∃ (oc : Value) (od : Option Addr) (osl : Array (Option Value)), K.lookup f = some ⟨oc, od, .func fd, osl⟩ ∧ fd.code = cdv) → Room k (A.deeper (envOfC qual scope s.heap.objs.size f cdv)) → sp vs H Q E →
      ∃ t, PS (cxOf CX P w K mg base N qual scope f cdv A outer s H E) s1 t ∧ t { nx := (fun σ' H' => ∃ v d1 d2, σ'[m]? = some (some v) ∧ σ'[i]? = some (some d1) ∧ σ'[j]? = some (some d2) ∧
        ∀ a1 a2, (cellsFrom (s.heap.objs.size + 1) scope.names []).lookup n1 = some a1 → (cellsFrom (s.heap.objs.size + 1) scope.names []).lookup n2 = some a2 → a1 ≠ a2 → H' a1 = none → H' a2 = none → Q v (add2 H' a1 a2 (CellO a1 d1) (CellO a2 d2))), rt := fun _ _ => False } (L2.start N vs) H) :
    FnOk P w K mg base CX (k + 1) f fd ps sp := by
  obtain ⟨oc, od, dV, kV, doc, pm, an, cdv, ct, osl, rfl, lk, hcdv, _, _⟩ := F.ex
  refine ⟨len, fun A outer s H args us vs Q E hr e0 hb r hsp => ?_⟩
  have hl := len _ _ _ _ hsp
  have KX : K.In s.heap := e0.mod.kin.keeps fun b o e => (e0.bs b o e).1
  have lim : s.heap.NoLimit := e0.mod.nolimit.keeps fun b o e => (e0.bs b o e).1
  have hkind : ∀ y ∈ ps.zip us, scope.names.lookup y.1 = some .local ∨ (scope.names.lookup y.1 = some .cell ∧ ((cellsFrom (s.heap.objs.size + 1) scope.names []).lookup y.1).isSome = true) := fun ⟨n, v⟩ hy => by
    rcases S.par n (List.of_mem_zip hy).1 with q | q
    · exact .inl q
    · exact .inr ⟨q, PySem.W.cellsFrom_some _ _ _ (.inl q)⟩
  refine codeAny_call_function hr.depth (KX _ _ lk) rfl S.co S.gen rfl (PySem.W.codeRec_of KX hcdv) (hb _ _ _ _ ?_)
  refine wpAny_newFunctionEnv_cells S.kind hkind fun env he s1' x => ?_
  subst he
  refine ⟨lim.keeps x.toInCall.keep, codeAny_func ?_⟩
  obtain ⟨t, ht, hq⟩ := hbody cdv A outer s H vs Q E hcdv ⟨_, _, _, lk, rfl⟩ (hr.deeper _) hsp
  have I : Inv (cxOf CX P w K mg base N qual scope f cdv A outer s H E) [] (L2.start N vs) H s1' := inv_start S hr.hd e0 hl r x
  subst hbd
  refine wpAny_mono (Q := fun fl s' => ∃ u, fl = .ret u ∧ CE outer P w H s Q u s') ?_ (fun fl s' hs => ?_) fun e s' hs => hs
  · refine wpAny_execs_cons (thn (ht.run [] s1' (L2.start N vs) H _ I hq) fun fl s2 q => ?_)
    cases fl with
    | next =>
      obtain ⟨σ', H', J, v, d1, d2, e0', e1, e2, q⟩ := q
      refine wpAny_execs_cons (wpAny_Return_some (thn ((pe_var (pos := p) (X := cxOf CX P w K mg base N qual scope f cdv A outer s H E) hm (.inl hv) hd hcd).run [] s2 σ' H' (fun v' H2 => v' = v ∧ H2 = H') J ⟨v, e0', rfl, rfl⟩) fun u s3 ⟨v', H2, J2, rv, ev, eH⟩ => ?_))
      subst ev eH
      refine ⟨u, rfl, ?_⟩
      obtain ⟨mm, hns, hloc⟩ := J2.loc
      have look : ∀ {i : Nat} {n : Str} {d : V}, N[i]? = some n → σ'[i]? = some (some d) → scope.names.lookup n = some .cell → ∃ a u, RelV d u ∧ (cellsFrom (s.heap.objs.size + 1) scope.names []).lookup n = some a ∧ s3.heap.IsCell a (some u) := fun {i n d} h1 h2 h3 => by
        obtain ⟨u, ru, l⟩ := hloc i n d h1 h2 (.inr (.inl h3))
        rcases l with ⟨z, _⟩ | ⟨_, a, ha, hc⟩
        · have z' : scope.names.lookup n = some .local := z
          rw [h3] at z'; cases z'
        · exact ⟨a, u, ru, ha, hc⟩
      obtain ⟨a1, u1, r1, l1, g1⟩ := look hi e1 c1
      obtain ⟨a2, u2, r2, l2, g2⟩ := look hj e2 c2
      have hne : a1 ≠ a2 := fun z => hn (J2.ok.inj n1 n2 a1 l1 (by rw [z]; exact l2))
      have f1 : H2 a1 = none := J2.freeC n1 a1 l1
      have f2 : H2 a2 = none := J2.freeC n2 a2 l2
      have b1 : s.heap.objs.size ≤ a1 := J2.ok.cab n1 a1 rfl l1
      have b2 : s.heap.objs.size ≤ a2 := J2.ok.cab n2 a2 rfl l2
      have un : Un (frs outer) [] H H2 s.heap s3.heap := J2.base
      refine ⟨v', _, J2.os, J2.bare, ⟨un.keep, un.slot, fun b o e n hx => ?_, un.there, fun b xs e => ?_, fun b o u e => ?_, fun b ps e => ?_⟩, hok_add J2.hok f1 f2 ⟨u1, r1, g1⟩ ⟨u2, r2, g2⟩, rv, q a1 a2 l1 l2 hne f1 f2⟩
      · have lt := Heap.lt_size e
        rw [add2_ne (fun z => absurd lt (Nat.not_lt.mpr (by rw [z]; exact b1))) (fun z => absurd lt (Nat.not_lt.mpr (by rw [z]; exact b2)))]
        exact un.free b o e n hx
      · have z := un.tups b xs e
        rw [add2_ne (ne_of_none z f1) (ne_of_none z f2)]; exact z
      · have z := un.frzs b o u e
        rw [add2_ne (ne_of_none z f1) (ne_of_none z f2)]; exact z
      · obtain ⟨more, z⟩ := un.tbls b ps e
        exact ⟨more, by rw [add2_ne (ne_of_none z f1) (ne_of_none z f2)]; exact z⟩
    | ret u => obtain ⟨_, _, _, _, _, q⟩ := q; exact False.elim q
    | brk => obtain ⟨_, _, _, q⟩ := q; exact False.elim q
    | cont => obtain ⟨_, _, _, q⟩ := q; exact False.elim q
  · obtain ⟨u, rfl, h⟩ := hs
    exact h
end
end Fo
end
section
set_option Elab.async false
set_option linter.all false
set_option maxRecDepth 100000
set_option maxHeartbeats 4000000
/-! sorted of a set with few members out of many. -/
namespace Fo
open PySem PySem.Spec PyProof.Rows L2 NdefX
def rSortedSetM (w : World) : List V → Hp → VK → Prop := fun vs H Q => ∃ (a : Addr) (S : Int → Bool) (n : Nat) (ms : List Int), vs = [V.ref a] ∧ H a = some (SetO w a S n) ∧ (∀ k : Int, S k = true → k ∈ ms) ∧ ms.length < 64 ∧
  ∀ (ns : List Int) (p : Addr), ns.Pairwise (· < ·) → (∀ k : Int, k ∈ ns ↔ S k = true) → ns.length = n → H p = none → Q (.ref p) (upd H p (.lst (ns.map V.int)))
theorem cr_sortedSetM {X : Cx} (hc : X.calm = true) : CallR X (.builtin "sorted") (rSortedSetM X.w) := by
  intro pins s σ H vs us Q I r h
  obtain ⟨a, S, n, ms, rfl, ha, hm1, h64, q⟩ := h
  obtain ⟨o, es, ep, t, ho, hx, hd, g, nd, hm, hb, hf, hn, _⟩ := setO_get I ha
  have hl : n ≤ ms.length := by
    have h1 := nodup_len nd (k := ms) fun k hk => hm1 k ((hm k).mpr hk)
    rw [List.length_map, Array.length_toList] at h1
    omega
  exact cr_sortedSet hc pins s σ H _ us Q I r ⟨a, S, n, rfl, ha, by omega, q⟩
theorem cr_sortedSetMK {X : Cx} {w : World} (hc : X.calm = true) (hw : X.w = w := by rfl) : CallR X (.builtin "sorted") (rSortedSetM w) := by subst hw; exact cr_sortedSetM hc
end Fo
end
section
set_option Elab.async false
set_option linter.all false
set_option maxRecDepth 100000
set_option maxHeartbeats 4000000
/-! A def in a def that has captured names and cells of its own. -/
namespace Fo
open PySem PySem.Spec PyProof.Rows L2 LamX NdefX
section
variable {M : Model} {A : Around} {E : Value → Shared → Prop} {s₀ s : Shared} {m cm : Str → Option Value} {env : Env} {co : List (Str × Addr)}
theorem stLD {n : Str} {v : Value} {Q : Unit → Shared → Prop} (x : InCallC s₀ env.locals m co cm s) (hk : env.scope.kind = .function) (hl : env.kindOf n = some .local)
    (h : ∀ s', InCallC s₀ env.locals (fun y => if y = n then some v else m y) co cm s' → Q () s') : wpAny M A (storeName env n v) Q E s := by
  refine wpAny_storeName_local hl x.toInCall.ns (fun h' hn' hs' => h _ ⟨⟨?_, hn', fun b o e => ?_, x.toInCall.fresh⟩, fun k c hc => ?_, x.apart, x.above⟩) (by rw [hk]; rfl)
  · obtain ⟨h1, tk, rfl⟩ := x.toInCall.same
    exact ⟨h', _, rfl⟩
  · exact hs'.extBut b o (Nat.ne_of_lt (Nat.lt_of_lt_of_le (Heap.lt_size e) x.toInCall.fresh)) (x.toInCall.keep b o e)
  · exact (x.cell k c hc).sameBut hs' (Nat.ne_of_gt (x.above k c (PySem.mem_of_lookup hc)))
theorem stCD {n : Str} {c : Addr} {v : Value} {Q : Unit → Shared → Prop} (x : InCallC s₀ env.locals m co cm s) (hk : env.scope.kind = .function) (hl : env.kindOf n = some .cell)
    (hc0 : env.cells.lookup n = some c) (hc : co.lookup n = some c)
    (h : ∀ s', InCallC s₀ env.locals m co (fun y => if y = n then some v else cm y) s' → Q () s') : wpAny M A (storeName env n v) Q E s := by
  have hLc := x.above n c (PySem.mem_of_lookup hc)
  refine wpAny_storeName_cell hk hl hc0 (x.cell n c hc) fun h' hc' hs' => h _ ⟨⟨?_, x.toInCall.ns.sameBut hs' (Nat.ne_of_lt hLc), fun b o e => ?_, x.toInCall.fresh⟩, fun k c' hk' => ?_, x.apart, x.above⟩
  · obtain ⟨h1, tk, rfl⟩ := x.toInCall.same
    exact ⟨h', _, rfl⟩
  · exact hs'.extBut b o (Nat.ne_of_lt (Nat.lt_trans (Nat.lt_of_lt_of_le (Heap.lt_size e) x.toInCall.fresh) hLc)) (x.toInCall.keep b o e)
  · by_cases hkn : k = n
    · subst hkn
      rw [hc] at hk'; cases hk'
      simpa using hc'
    · rw [if_neg hkn]
      exact (x.cell k c' hk').sameBut hs' fun e => hkn (name_of_addr x.apart (PySem.mem_of_lookup hk') (e ▸ PySem.mem_of_lookup hc))
theorem bindParamsD (f : Str × Value → PUnit → Sem (ForInStep PUnit)) (hf : ∀ n v u, f (n, v) u = (do storeName env n v; pure (.yield ⟨⟩))) (hk : env.scope.kind = .function) (hco : ∀ n c, co.lookup n = some c → env.cells.lookup n = some c) :
    ∀ (binds : List (Str × Value)) (m cm : Str → Option Value) (s : Shared) (Q : PUnit → Shared → Prop), InCallC s₀ env.locals m co cm s →
      (∀ x ∈ binds, env.kindOf x.1 = some .local ∨ (env.kindOf x.1 = some .cell ∧ (co.lookup x.1).isSome = true)) →
      (∀ s', InCallC s₀ env.locals (bindL env.kindOf binds m) co (bindC env.kindOf binds cm) s' → Q ⟨⟩ s') → wpAny M A (forIn binds ⟨⟩ f) Q E s
  | [], m, cm, s, Q, x, _, h => by rw [List.forIn_nil]; exact wpAny_pure (h s x)
  | (n, v) :: r, m, cm, s, Q, x, hkind, h => by
    rw [List.forIn_cons, hf]
    have hr : ∀ y ∈ r, env.kindOf y.1 = some .local ∨ (env.kindOf y.1 = some .cell ∧ (co.lookup y.1).isSome = true) := fun y hy => hkind y (List.mem_cons_of_mem _ hy)
    rcases hkind (n, v) List.mem_cons_self with hl | ⟨hl, hc⟩
    · refine wpAny_bind (wpAny_bind (stLD x hk hl fun s' x' => wpAny_pure (bindParamsD f hf hk hco r _ _ s' Q x' hr fun s'' x'' => h s'' ?_)))
      unfold bindL bindC; rw [if_pos hl, if_pos hl]; exact x''
    · obtain ⟨c, hc⟩ := Option.isSome_iff_exists.mp hc
      have hnl : ¬ env.kindOf n = some .local := by rw [hl]; decide
      refine wpAny_bind (wpAny_bind (stCD x hk hl (hco _ _ hc) hc fun s' x' => wpAny_pure (bindParamsD f hf hk hco r _ _ s' Q x' hr fun s'' x'' => h s'' ?_)))
      unfold bindL bindC; rw [if_neg hnl, if_neg hnl]; exact x''
end
theorem lookup_app {α : Type} (l k : List (Str × α)) (x : Str) : (l ++ k).lookup x = (l.lookup x).or (k.lookup x) := List.lookup_append
section
variable {M : Model} {A : Around} {E : Value → Shared → Prop} {s : Shared}
theorem newFunctionEnv_cl {scope : Scope} {globals : Addr} {cl : List (Str × Addr)} {binds : List (Str × Value)} {qual : Str} {func : Option Addr} {code : Value} {builtins : Addr} {Q : Env → Shared → Prop}
    (hk : scope.kind = .function)
    (hkind : ∀ x ∈ binds, scope.names.lookup x.1 = some .local ∨ (scope.names.lookup x.1 = some .cell ∧ ((cellsFrom (s.heap.objs.size + 1) scope.names []).lookup x.1).isSome = true))
    (hQ : ∀ env, env = newEnv scope s.heap.objs.size globals (cellsFrom (s.heap.objs.size + 1) scope.names [] ++ cl) qual func code none builtins →
      ∀ s', InCallC s env.locals (bindL env.kindOf binds fun _ => none) (cellsFrom (s.heap.objs.size + 1) scope.names []) (bindC env.kindOf binds fun _ => none) s' → Q env s') :
    wpAny M A (newFunctionEnv scope globals cl binds qual func code none builtins) Q E s := by
  simp only [newFunctionEnv, Option.isSome_none, Bool.false_eq_true, if_false]
  refine wpAny_bind (wpAny_alloc ?_)
  refine wpAny_bind (wpAny_layCells _ (fun name kind cells => by cases hkc : kind == NameKind.cell <;> simp [hkc]) _ _ _ _ ?_)
  have ok := cellsFrom_ok scope.names (s.heap.push { cls := .type "frame", data := .dict #[] }) (s.heap.objs.size + 1) [] ⟨fun _ _ hm => (nomatch hm), List.Pairwise.nil⟩ (by rw [Heap.size_push]; exact Nat.le_refl _)
  rw [Heap.size_push] at ok
  rw [show ({ s with heap := s.heap.push { cls := .type "frame", data := .dict #[] } } : Shared).heap.objs.size = s.heap.objs.size + 1 from Heap.size_push ..]
  rw [show cellsFrom (s.heap.objs.size + 1) scope.names cl = cellsFrom (s.heap.objs.size + 1) scope.names [] ++ cl from cellsFrom_over _ _ _]
  refine wpAny_bind (bindParamsD (s₀ := s) (env := newEnv scope s.heap.objs.size globals (cellsFrom (s.heap.objs.size + 1) scope.names [] ++ cl) qual func code none builtins) (co := cellsFrom (s.heap.objs.size + 1) scope.names [])
    _ (fun _ _ _ => rfl) hk (fun n c e => ?_) binds (fun _ => none) (fun _ => none) _ _
    ⟨⟨⟨_, _, rfl⟩, (Heap.Ns.new s.heap (.type "frame")).keeps (pushCells_keeps _ _), fun b o e => pushCells_keeps _ _ b o (Heap.get?_push_of_some _ e), Nat.le_refl _⟩,
      fun n c hc => (ok.empty n c (PySem.mem_of_lookup hc)).1, ok.apart, fun n c hm => (ok.empty n c hm).2⟩
    hkind fun s' x => wpAny_pure (hQ _ rfl s' x))
  show List.lookup n (_ ++ _) = some c
  rw [lookup_app, e]; rfl
end
theorem cells_kind : ∀ {names : List (Str × NameKind)} {n : Nat} {acc : List (Str × Addr)} {x : Str} {c : Addr}, (x, c) ∈ cellsFrom n names acc → (x, c) ∈ acc ∨ (x, NameKind.cell) ∈ names
  | [], _, _, _, _, h => .inl h
  | (nm, k) :: r, n, acc, x, c, h => by
    unfold cellsFrom at h
    split at h
    · rename_i hk
      rcases cells_kind h with z | z
      · rcases List.mem_cons.mp z with e | z
        · cases e
          rw [beq_iff_eq.mp hk]
          exact .inr List.mem_cons_self
        · exact .inl z
      · exact .inr (List.mem_cons_of_mem _ z)
    · rcases cells_kind h with z | z
      · exact .inl z
      · exact .inr (List.mem_cons_of_mem _ z)
structure NScopeC (N ps fr : List Str) (sc : Scope) : Prop where
  kind : sc.kind = .function
  co : sc.isCoroutine = false
  gen : sc.isGenerator = false
  nd : N.Nodup
  pre : N.take (ps.length + fr.length) = ps ++ fr
  par : ∀ x ∈ ps, sc.names.lookup x = some .local ∨ sc.names.lookup x = some .cell
  free : ∀ y ∈ sc.names, y.2 = .free → y.1 ∈ fr
  frk : ∀ x ∈ fr, sc.names.lookup x = some .free
  frc : ∀ x ∈ fr, (x, NameKind.cell) ∉ sc.names
abbrev envY (F : NF) (f L : Addr) : Env := PySem.W.envX F.qual F.scope L f (.ref F.c) (cellsFrom (L + 1) F.scope.names [] ++ F.cl)
def ncy (CX : CXT) (P : Program) (w : World) (K : PySem.W.Frag) (mg : Str → Option Value) (base : Heap) (N : List Str) (F : NF) (f : Addr) (A : Around) (outer : List Env) (s : Shared) (H : Hp) (E : XK) : Cx where
  prog := P
  w := w
  K := K
  mg := mg
  base := base
  A := A.deeper (envY F f s.heap.objs.size)
  N := N
  s_0 := s
  H_0 := H
  env := envY F f s.heap.objs.size
  outer := outer
  stack := envY F f s.heap.objs.size :: outer
  ex := []
  calm := true
  fn := fun x => decide (F.scope.names.lookup x = some .cell)
  pn := []
  xe := fun e s' => wpAny (model P w) (A.deeper (envY F f s.heap.objs.size)) (leaving (envY F f s.heap.objs.size) e) (fun _ s'' => CX outer H s E e s'') (fun e' s'' => CX outer H s E e' s'') s'
section
variable {CX : CXT} {P : Program} {w : World} {K : PySem.W.Frag} {mg : Str → Option Value} {base : Heap} {N ps fr : List Str} {F : NF} {f : Addr} {A : Around} {outer : List Env} {s s1 : Shared} {H : Hp} {E : XK} {us : List Value} {vs : List V} {ws : List (Option V)} {k : Nat} {sp : List (Option V) → Sp}
theorem inv_startC (S : NScopeC N ps fr F.scope) (hd : A.handled = none) (e0 : Env0 P w K mg base A outer s H) (hl : vs.length = ps.length) (r : Vals vs us) (C : CellsAt F.cl fr ws s.heap H)
    (x : InCallC s s.heap.objs.size (bindL (envY F f s.heap.objs.size).kindOf (ps.zip us) fun _ => none) (cellsFrom (s.heap.objs.size + 1) F.scope.names []) (bindC (envY F f s.heap.objs.size).kindOf (ps.zip us) fun _ => none) s1) : Inv (ncy CX P w K mg base N F f A outer s H E) [] (startF N vs ws) H s1 := by
  have hpl : ps.length + fr.length ≤ N.length := by
    have q := congrArg List.length S.pre
    rw [List.length_take, List.length_append] at q
    omega
  obtain ⟨h1, tk, rfl, kp⟩ := x.done
  have noA : ∀ b : Addr, b ∉ (ncy CX P w K mg base N F f A outer s H E).ex := fun b z => absurd (show b ∈ ([] : List Addr) from z) (by simp)
  have cellK : ∀ {c : Addr} {v : Option Value}, s.heap.IsCell c v → h1.IsCell c v := fun {c v} ⟨o, ho, hd⟩ => ⟨o, kp _ _ ho, hd⟩
  have look : ∀ {y : Str} {c : Addr}, (cellsFrom (s.heap.objs.size + 1) F.scope.names [] ++ F.cl).lookup y = some c → (cellsFrom (s.heap.objs.size + 1) F.scope.names []).lookup y = some c ∨ ((cellsFrom (s.heap.objs.size + 1) F.scope.names []).lookup y = none ∧ F.cl.lookup y = some c) := fun {y c} e => by
    rw [lookup_app] at e
    cases q : (cellsFrom (s.heap.objs.size + 1) F.scope.names []).lookup y with
    | none => rw [q] at e; exact .inr ⟨rfl, e⟩
    | some d => rw [q] at e; exact .inl e
  have own : ∀ {y : Str} {c : Addr}, (cellsFrom (s.heap.objs.size + 1) F.scope.names []).lookup y = some c → (cellsFrom (s.heap.objs.size + 1) F.scope.names [] ++ F.cl).lookup y = some c := fun {y c} e => by rw [lookup_app, e]; rfl
  have clt : ∀ {y : Str} {c : Addr}, F.cl.lookup y = some c → c < s.heap.objs.size := fun {y c} e => by
    obtain ⟨_, v, z⟩ := C.all y c e
    exact z.lt
  have oge : ∀ {y : Str} {c : Addr}, (cellsFrom (s.heap.objs.size + 1) F.scope.names []).lookup y = some c → s.heap.objs.size < c := fun {y c} e => x.above y c (PySem.mem_of_lookup e)
  refine ⟨⟨e0.mod, S.kind, rfl, rfl, Nat.le_refl _, fun y z c g1 g2 => ?_, fun y hy => ?_, fun y c z g => ?_, fun _ => hd, Around.frames_deeper e0.frames, .inr ⟨rfl, rfl⟩, fun b z => absurd z (noA b), e0.bs, e0.bsz, fun b _ _ => noA b,
      fun b z => absurd z (noA b), e0.funs, e0.frf⟩,
    rfl, e0.bare, Un.kept kp, ⟨_, x.toInCall.ns, fun i y v e1 e2 e3 => ?_⟩, fun y c e => ?_, e0.hok.fresh (Nat.le_refl _), fun y c e => ?_, fun q hq => absurd (show q ∈ ([] : List (Addr × Obj)) ++ [] from hq) (by simp), e0.hok.kept kp, ?_⟩
  · rcases look g1 with a | ⟨_, a⟩ <;> rcases look g2 with b | ⟨_, b⟩
    · exact name_of_addr x.apart (PySem.mem_of_lookup a) (PySem.mem_of_lookup b)
    · exact absurd (oge a) (Nat.not_lt.mpr (Nat.le_of_lt (clt b)))
    · exact absurd (oge b) (Nat.not_lt.mpr (Nat.le_of_lt (clt a)))
    · exact C.inj y z c a b
  · have hy : F.scope.names.lookup y = some .cell ∨ F.scope.names.lookup y = some .free := hy
    rcases hy with hy | hy
    · obtain ⟨c, e⟩ := cell_has (n := s.heap.objs.size + 1) hy
      exact ⟨c, own e⟩
    · obtain ⟨i, hi⟩ := List.mem_iff_getElem?.mp (S.free _ (PySem.mem_of_lookup hy) rfl)
      obtain ⟨c, hc, _⟩ := C.has i y hi
      have g : ((cellsFrom (s.heap.objs.size + 1) F.scope.names []).lookup y).or (some c) = (cellsFrom (s.heap.objs.size + 1) F.scope.names [] ++ F.cl).lookup y := by rw [lookup_app, hc]
      cases q : (cellsFrom (s.heap.objs.size + 1) F.scope.names []).lookup y with
      | none => rw [q] at g; exact ⟨c, g.symm⟩
      | some d => rw [q] at g; exact ⟨d, g.symm⟩
  · have z : F.scope.names.lookup y = some .cell := of_decide_eq_true z
    rcases look g with a | ⟨a, _⟩
    · exact Nat.le_of_lt (oge a)
    · obtain ⟨c', e⟩ := cell_has (n := s.heap.objs.size + 1) z
      rw [a] at e; cases e
  · have e1 : N[i]? = some y := e1
    have clen := C.len
    unfold startF at e2
    by_cases h1 : i < ps.length
    · have hq : (ps ++ fr)[i]? = some y := by
        rw [← S.pre, List.getElem?_take_of_lt (by omega)]
        exact e1
      rw [List.getElem?_append_left h1] at hq
      rw [List.getElem?_append_left (by rw [List.length_map]; omega), List.getElem?_map] at e2
      have ha : vs[i]? = some v := by
        cases e : vs[i]? with
        | none => rw [e] at e2; cases e2
        | some a => rw [e] at e2; cases e2; rfl
      obtain ⟨u, hu, rv⟩ := r.get ha
      have ndP : ps.Nodup := by
        have q := S.nd.sublist (List.take_sublist (ps.length + fr.length) N)
        rw [S.pre] at q
        exact (List.nodup_append.mp q).1
      refine ⟨u, rv, ?_⟩
      rcases S.par y (List.mem_of_getElem? hq) with kk | kk
      · exact .inl ⟨kk, bindL_get ndP hq hu kk⟩
      · obtain ⟨c, e⟩ := cell_has (n := s.heap.objs.size + 1) kk
        refine .inr ⟨.inl kk, c, own e, ?_⟩
        have q := x.cell y c e
        rw [bindC_get ndP hq hu (by show F.scope.names.lookup y ≠ _; rw [kk]; decide)] at q
        exact q
    · rw [List.getElem?_append_right (by rw [List.length_map]; omega), List.length_map] at e2
      by_cases h2 : i < ps.length + fr.length
      · have hq : (ps ++ fr)[i]? = some y := by
          rw [← S.pre, List.getElem?_take_of_lt (by omega)]
          exact e1
        rw [List.getElem?_append_right (by omega)] at hq
        rw [List.getElem?_append_left (by omega), hl] at e2
        obtain ⟨c, hc, hv⟩ := C.has (i - ps.length) y hq
        obtain ⟨u, ru, hu⟩ := hv v e2
        have hym := List.mem_of_getElem? hq
        have nc : (cellsFrom (s.heap.objs.size + 1) F.scope.names []).lookup y = none := by
          cases q : (cellsFrom (s.heap.objs.size + 1) F.scope.names []).lookup y with
          | none => rfl
          | some d =>
            rcases cells_kind (PySem.mem_of_lookup q) with z | z
            · cases z
            · exact absurd z (S.frc y hym)
        exact ⟨u, ru, .inr ⟨.inr (S.frk y hym), c, (show (cellsFrom (s.heap.objs.size + 1) F.scope.names [] ++ F.cl).lookup y = some c by rw [lookup_app, nc, hc]; rfl), cellK hu⟩⟩
      · rw [List.getElem?_append_right (by omega), List.getElem?_replicate] at e2
        split at e2 <;> cases e2
  · rcases look e with a | ⟨_, a⟩
    · exact ⟨_, x.cell y c a⟩
    · obtain ⟨v, z⟩ := (C.all y c a).2
      exact ⟨v, cellK z⟩
  · rcases look e with a | ⟨_, a⟩
    · exact e0.hok.fresh (Nat.le_of_lt (oge a))
    · exact (C.all y c a).1
  · have clen := C.len
    unfold startF
    show _ = N.length
    rw [List.length_append, List.length_append, List.length_map, List.length_replicate]
    omega
/-- a nested def by its body -/
theorem nok_ofC (S : NScopeC N ps fr F.scope) (hb : ∀ (doc pm ctv : Value) (us : List Value), us.length = ps.length → bindArgs (F.fd doc pm ctv) ⟨us, []⟩ = pure (ps.zip us)) (len : ∀ ws vs H Q E, sp ws vs H Q E → vs.length = ps.length)
    (hbody : ∀ (A : Around) (outer : List Env) (s : Shared) (H : Hp) (vs : List V) (ws : List (Option V)) (Q : VK) (E : XK), Room k (A.deeper (envY F f s.heap.objs.size)) → ws.length = fr.length → sp ws vs H Q E →
      ∃ t, PSs (ncy CX P w K mg base N F f A outer s H E) F.body t ∧ t { nx := fun _ H' => Q .non H', rt := Q } (startF N vs ws) H) :
    NOk P w K mg base CX (k + 1) f F ps fr sp := by
  refine ⟨len, fun A outer s H us vs ws Q E hr e0 hf hc C r hsp => ?_⟩
  have hl := len _ _ _ _ _ hsp
  have lim : s.heap.NoLimit := e0.mod.nolimit.keeps fun b o e => (e0.bs b o e).1
  obtain ⟨od, sl, doc, pm, ctv, ho⟩ := fnO_at e0.hok hf
  have hkind : ∀ y ∈ ps.zip us, F.scope.names.lookup y.1 = some .local ∨ (F.scope.names.lookup y.1 = some .cell ∧ ((cellsFrom (s.heap.objs.size + 1) F.scope.names []).lookup y.1).isSome = true) := fun ⟨n, v⟩ hy => by
    rcases S.par n (List.of_mem_zip hy).1 with q | q
    · exact .inl q
    · exact .inr ⟨q, PySem.W.cellsFrom_some _ _ _ (.inl q)⟩
  refine codeAny_call_function hr.depth ho rfl S.co S.gen rfl (codeO_at e0.hok hc) ?_
  rw [hb doc pm ctv us (by rw [← r.length]; exact hl)]
  refine wpAny_pure (newFunctionEnv_cl S.kind hkind fun env he s1 x => ?_)
  subst he
  refine ⟨lim.keeps x.toInCall.keep, codeAny_func ?_⟩
  obtain ⟨t, ht, hq⟩ := hbody A outer s H vs ws Q E (hr.deeper _) C.len hsp
  have I : Inv (ncy CX P w K mg base N F f A outer s H E) [] (startF N vs ws) H s1 := inv_startC S hr.hd e0 hl r C x
  refine wpAny_mono (ht.run [] s1 (startF N vs ws) H _ I hq) (fun fl s' hs => ?_) fun e s' hs => hs
  have fin : ∀ {σ' : L2.St} {H' : Hp} {v : V} {u : Value}, Inv (ncy CX P w K mg base N F f A outer s H E) [] σ' H' s' → L2.RelV v u → Q v H' → CE outer P w H s Q u s' :=
    fun {σ' H' v u} J rv q => ⟨v, H', J.os, J.bare, J.base, J.hok, rv, q⟩
  cases fl with
  | ret u =>
    obtain ⟨v, σ', H', J, rv, q⟩ := hs
    exact fin J rv q
  | next =>
    obtain ⟨σ', H', J, q⟩ := hs
    exact fin (v := V.non) (u := Value.none) J rfl q
  | brk =>
    obtain ⟨_, _, _, q⟩ := hs
    exact False.elim q
  | cont =>
    obtain ⟨_, _, _, q⟩ := hs
    exact False.elim q
end
end Fo
end
section
set_option Elab.async false
set_option linter.all false
set_option maxRecDepth 100000
set_option maxHeartbeats 4000000
/-! A dict told as it is at a look over it; the frame of a call of a def with told cells. -/
namespace Fo
open PySem PySem.Spec PyProof.Rows L2 LamX NdefX
/-- what e gives is locked from there on -/
def tLk (t : TE) : TE := fun σ H Q => t σ H fun x H1 => ∃ d u, x = .ref d ∧ H1 d = some u ∧ Mut (some u) ∧ ∀ o, Q x (upd H1 d (.frz o u))
theorem pe_lk {X : Cx} {e : Expr} {t : TE} (h : PE X e t) : PE X e (tLk t) := by
  refine ⟨fun pins s σ H Q I hw => ?_⟩
  refine thn (h.run pins s σ H _ I hw) fun v s1 ⟨x, H1, I1, r, d, u, ex, hd, mu, q⟩ => ?_
  obtain ⟨od, I2⟩ := I1.lock hd mu
  exact ⟨x, _, I2, r, q od⟩
theorem pi_itemsL {X : Cx} {e : Expr} {td : TE} {apos cpos : Pos} {elts : List Expr} {kk : Nat} {tpos : Pos} (he : PE X e td) (hbase : attributeBase e "items" X.env (eval e X.env) = eval e X.env := by rfl) (hline : (apos.endLine == cpos.line) = true := by rfl) :
    PI X (.Tuple elts kk tpos) (.Call (.Attribute e "items" apos) [] [] cpos) (iItems (tLk td)) := pi_items (pe_lk he) hbase hline
theorem op_eqDK {X : Cx} {K : PySem.W.Frag} (hu : X.A.units + 64 < cLine) (hk : X.K = K := by rfl) : OpR X (compareOp .Eq) (rEqD K) := by subst hk; exact op_eqD hu
section
variable {H H2 : Hp} {f : Addr} {F : NF} {n1 n2 : Str} {c1 c2 : Addr} {v1 v2 : V}
theorem PickAt.keep (p : PickAt H f F n1 n2 c1 c2 v1 v2) {b : Addr} {u : HO} (e : H b = some u) (n1 : u ≠ CellO c1 v1) (n2 : u ≠ CellO c2 v2) : del2 H c1 c2 b = some u := by
  rw [del2_ne (ne_of e p.at1 n1) (ne_of e p.at2 n2)]; exact e
theorem PickAt.back (p : PickAt H f F n1 n2 c1 c2 v1 v2) (k : Same (del2 H c1 c2) H2) : Same H (add2 H2 c1 c2 (CellO c1 v1) (CellO c2 v2)) := fun b u e => by
  unfold add2
  by_cases q1 : b = c1
  · rw [if_pos q1]; rw [q1, p.at1] at e; exact e
  by_cases q2 : b = c2
  · rw [if_neg q1, if_pos q2]; rw [q2, p.at2] at e; exact e
  rw [if_neg q1, if_neg q2]
  exact k _ _ (by rw [del2_ne q1 q2]; exact e)
theorem cell_tup {c : Addr} {v : V} (xs : List V) : HO.tup xs ≠ CellO c v := fun z => nomatch z
theorem cell_lst {c : Addr} {v : V} (xs : List V) : HO.lst xs ≠ CellO c v := fun z => nomatch z
end
section
variable {X : Cx} {K : PySem.W.Frag} {o e : Expr} {es : List Expr} {to : TE} {t : TA} {name : Str} {apos cpos : Pos} {T id : String} {r : V → List V → Hp → VK → Prop}
/-- a built-in method's call within a comprehension -/
theorem pe_bmK (pa : PlainAttrs T) (slot : Slot T name id) (hty : typeOf (.builtin id) = pure (.type "method_descriptor")) (hm : MtR X id r) (ho : PE X o to) (ha : PA X (e :: es) t)
    (hbase : attributeBase o name X.env (eval o X.env) = eval o X.env := by rfl)
    (hfew : ((backTo cpos (starEach (e :: es) X.env)).all (fun x => !x.1) && (backToKw cpos (keywordEach [] X.env)).all (fun x => x.1.isSome)
      && decide ((e :: es).length + ([] : List Keyword).length + (if ([] : List Keyword).isEmpty then 0 else 1) < 30)) = true := by rfl)
    (hline : (apos.endLine == cpos.line) = true := by rfl) (hs : starEach (e :: es) X.env = (false, eval e X.env) :: starEach es X.env := by rfl) (hplain : (backTo cpos (starEach es X.env)).any (·.1) = false := by rfl) (hk : X.K = K := by rfl) :
    PE X (.Call (.Attribute o name apos) (e :: es) [] cpos) (tBM K T r to t) := by
  subst hk
  exact pe_bm pa slot hty hm ho ha hbase hfew hline hs hplain
end
end Fo
end
section
set_option Elab.async false
set_option linter.all false
set_option maxRecDepth 100000
set_option maxHeartbeats 0
/-! The hashes of the dealings of up to six things differ. -/
namespace Fo
open PySem PySem.Spec PyProof.Rows L2
def hd (d : List Nat) : Int := reduceHash (Builtin.Tuple.tupleHashOf (d.map fun (n : Nat) => hashInt (n : Int)))
def hdN (d : List Nat) : Nat := (hd d + 9223372036854775808).toNat
def insN (a : Nat) : List Nat → List Nat
  | [] => [a]
  | b :: l => match Nat.ble a b with
    | true => a :: b :: l
    | false => b :: insN a l
theorem insN_perm (a : Nat) : ∀ l : List Nat, (insN a l).Perm (a :: l)
  | [] => .refl _
  | b :: l => by
    unfold insN
    split
    · exact .refl _
    · exact ((insN_perm a l).cons b).trans (.swap a b l)
def sortN : List Nat → List Nat
  | [] => []
  | a :: l => insN a (sortN l)
theorem sortN_perm : ∀ l : List Nat, (sortN l).Perm l
  | [] => .refl _
  | a :: l => (insN_perm a _).trans ((sortN_perm l).cons a)
/-- a strictly rising list -/
def risesN : List Nat → Bool
  | [] => true
  | a :: l => match l with
    | [] => true
    | b :: _ => Nat.blt a b && risesN l
theorem rises_pw : ∀ {l : List Nat}, risesN l = true → l.Pairwise (· < ·)
  | [], _ => .nil
  | [a], _ => List.pairwise_singleton _ _
  | a :: b :: l, h => by
    have h : (Nat.blt a b && risesN (b :: l)) = true := h
    obtain ⟨h1, h2⟩ := Bool.and_eq_true_iff.mp h
    have ih := rises_pw h2
    have hab : a < b := by simpa [Nat.blt_eq] using h1
    refine List.pairwise_cons.mpr ⟨fun x hx => ?_, ih⟩
    rcases List.mem_cons.mp hx with e | hx
    · rw [e]; exact hab
    · exact Nat.lt_trans hab ((List.pairwise_cons.mp ih).1 x hx)
theorem h0 : risesN (sortN ((perms (List.range 0)).map hdN)) = true := by decide +kernel
theorem h1 : risesN (sortN ((perms (List.range 1)).map hdN)) = true := by decide +kernel
theorem h2 : risesN (sortN ((perms (List.range 2)).map hdN)) = true := by decide +kernel
theorem h3 : risesN (sortN ((perms (List.range 3)).map hdN)) = true := by decide +kernel
theorem h4 : risesN (sortN ((perms (List.range 4)).map hdN)) = true := by decide +kernel
theorem h5 : risesN (sortN ((perms (List.range 5)).map hdN)) = true := by decide +kernel
theorem h6 : risesN (sortN ((perms (List.range 6)).map hdN)) = true := by decide +kernel
theorem hash_nd {n : Nat} (hn : n ≤ 6) : ((perms (List.range n)).map hdN).Nodup := by
  have key : ∀ l : List Nat, risesN (sortN l) = true → l.Nodup := fun l h => (sortN_perm l).nodup_iff.mp ((rises_pw h).imp fun h => Nat.ne_of_lt h)
  have : n = 0 ∨ n = 1 ∨ n = 2 ∨ n = 3 ∨ n = 4 ∨ n = 5 ∨ n = 6 := by omega
  rcases this with rfl | rfl | rfl | rfl | rfl | rfl | rfl
  · exact key _ h0
  · exact key _ h1
  · exact key _ h2
  · exact key _ h3
  · exact key _ h4
  · exact key _ h5
  · exact key _ h6
theorem hash_eq {P : Program} {w : World} (d : List Nat) : (stK P w).hash (d.map some) = hd d := by
  show tupleKeyHash (optKind P w) (d.map some) = _
  unfold tupleKeyHash hd
  rw [List.map_map]
  refine congrArg (fun l => reduceHash (Builtin.Tuple.tupleHashOf l)) (List.map_congr_left fun n _ => ?_)
  show (optKind P w).hash (some n) = hashInt ((n : Nat) : Int)
  rfl
theorem inj_of_nodup {α β : Type} {f : α → β} : ∀ {l : List α}, (l.map f).Nodup → ∀ a ∈ l, ∀ b ∈ l, f a = f b → a = b
  | [], _, a, h, _, _, _ => nomatch h
  | x :: l, hn, a, ha, b, hb, e => by
    obtain ⟨n1, n2⟩ := List.nodup_cons.mp hn
    rcases List.mem_cons.mp ha with ea | ha <;> rcases List.mem_cons.mp hb with eb | hb
    · rw [ea, eb]
    · exact absurd (List.mem_map.mpr ⟨b, hb, by rw [← ea, e]⟩) n1
    · exact absurd (List.mem_map.mpr ⟨a, ha, by rw [← eb, e]⟩) n1
    · exact inj_of_nodup n2 a ha b hb e
theorem hd_inj {n : Nat} (hn : n ≤ 6) {a b : List Nat} (ha : a.Perm (List.range n)) (hb : b.Perm (List.range n)) (e : hd a = hd b) : a = b :=
  inj_of_nodup (hash_nd hn) a (mem_perms ha) b (mem_perms hb) (by unfold hdN; rw [e])
end Fo
end
section
set_option Elab.async false
set_option linter.all false
set_option maxRecDepth 100000
set_option maxHeartbeats 8000000
set_option pp.maxSteps 600
/-! An own class of errors whose __init__ says super().__init__(x) and self.most = x. -/
namespace Fo
open PySem PySem.Spec PyProof.Rows L2 LamX NdefX
abbrev tmName : Str := "TooMany.__init__"
abbrev nTm : List Str := ["self", "most", "__class__"]
/-- what is known of it -/
structure TmK (P : Program) (K : PySem.W.Frag) (st : Stmt) (C fI : Addr) : Prop where
  oex : OexC K C
  init : PySem.W.findIn K (.ref C) "__init__" = some (some (.ref fI))
  tyI : PySem.W.typeIn K (.ref fI) = some (.type "function")
  fn : ∃ (cda cc : Addr) (oc : Value) (od : Option Addr) (kV doc pm : Value) (an : Option Addr) (ct : Value) (osl : Array (Option Value)) (ccl cl : Value) (cdd cld : Option Addr) (vs : Array Value) (ccs csl : Array (Option Value)) (file : Str) (tf : Tok),
    K.lookup fI = some ⟨oc, od, .func (PySem.W.ksFn "__init__" tmName (defArgs st) (defBody st) (defScope st) .none kV doc pm an (.ref cda) ct cc), osl⟩ ∧ PySem.W.codeIn K (.ref cda) tmName = true ∧
    K.lookup cda = some ⟨ccl, cdd, .fields vs, ccs⟩ ∧ vs[2]? = some (.str file tf) ∧ ((P.main.file : Str) == file) = true ∧ K.lookup cc = some ⟨cl, cld, .cell (some (.ref C)), csl⟩
  cls : ∃ cd, PySem.W.clsIn K C = some cd ∧ PySem.W.alongIn K "__init__" ((cd.mro.dropWhile (· != .ref C)).drop 1) = some (some (.builtin "ValueError.__init__"))
  mro : PySem.W.mroIn K C (.ref C) = some true
  sup : PySem.W.nsIn K mainGlobals "super" = some none
  any : PySem.W.nsIn K cStatics "thirdparty.any" = some none
  sub : PySem.W.subIn K (.ref C) (.type "ValueError") = some true
  most : PySem.W.findIn K (.ref C) "most" = some none
  top : (P.main.scope.names.lookup ("super" : Str)).isSome = false
def spTm (C : Addr) : Sp := fun vs H Q _ => ∃ (a : Addr) (y : V), vs = [.ref a, y] ∧ H a = some (exo a C none) ∧ ∀ dx, H dx = none → dx ≠ a → Q .non (upd (upd H dx (exd dx [("most", y)])) a (exo a C (some dx)))
section
variable {prog : Program} {w : World} {A : Around} {E : Value → Shared → Prop} {h : Heap} {g : Array GenState} {d : Drawn} {t : Nat} {os : OsState}
variable {nm q : Str} {C N : Addr} {bs bm : List Value} {hdct : Bool} {sn : List Str} {sub : List Value} {ab : Bool} {col : Option Bool} {dd : Option Addr} {k0 k1 k2 k3 k5 : Option Value}
theorem call_bwV {u e t0 : Addr} {rest : List Value} {Q : Value → Shared → Prop}
    (hC : h.get? C = some (excClassObj nm q C N bs bm hdct sn sub ab col dd k0 k1 k2 k3 k5 "ValueError.__new__")) (he : h.get? e = some (HandSPX.excO C t0)) (hu : h.get? u = some (PySem.W.kxs_mw "ValueError.__init__" e)) (hrest : rest.length ≤ sizeLine)
    (hq : ∀ h' t1, (∀ b o, b ≠ e → h.get? b = some o → h'.get? b = some o) → h'.get? e = some (HandSPX.excO C t1) → Q .none ⟨h', g, d, t, os⟩) :
    wpAny (model prog w) A (call (.ref u) rest) Q E ⟨h, g, d, t, os⟩ := by
  refine wpAny_call (codeAny_of_tree ?_)
  show wpAny _ A.in1 (callAny (.ref u) ⟨rest, []⟩) _ _ _
  simp only [callAny]
  refine wpAny_bind (wpAny_load hu ?_)
  simp only [PySem.W.kxs_mw, show (Value.type "method-wrapper" == Value.type "method" || Value.type "method-wrapper" == Value.type "builtin_function_or_method" || Value.type "method-wrapper" == Value.type "method-wrapper") = true by decide, if_true]
  refine W.KFB.if_so (by decide) ?_
  refine wpAny_bind (PySem.ESX.check_bound F.excBase_ValueError hC he rfl ?_)
  refine wpAny_bind (wpAny_pure (wpAny_pure ?_))
  refine ⟨Code.quiet_builtin _ (by decide +kernel), codeAny_builtin F.excBase_ValueError.initEntry ?_⟩
  rw [Around.under_plainId F.excBase_ValueError.init.plain _]
  wp_walk
  refine hq _ h.objs.size (fun b o hb ho => ?_) ?_
  · rw [Heap.get?_update_other _ _ (Ne.symm hb)]
    exact Heap.get?_push_of_some _ ho
  · rw [Heap.get?_update_self _ (Heap.get?_push_of_some _ he) rfl]
    rfl
end
section
variable {X : Cx} {CX : CXT} {x : Str} {e : Expr} {es : List Expr} {ta : TA} {p pos : Pos} {C fI : Addr} {k : Nat} {fd : FuncData} {ps : List Str} {sp : Sp}
/-- C(e ..), C an own error with its own __init__: the context of what is made is None -/
theorem pmk_oexN (T : OexC X.K C) (iC : PySem.W.findIn X.K (.ref C) "__init__" = some (some (.ref fI))) (tI : PySem.W.typeIn X.K (.ref fI) = some (.type "function")) (F1 : FnOk X.prog X.w X.K X.mg X.base CX k fI fd ps sp) (hr : Room (k + 1) X.A) (hb : Binds X.K fd ps [])
    (hx : Passes CX X (fun _ _ _ => False)) (hg : Gl X x) (hm : X.mg x = some (.ref C)) (ha : PA X (e :: es) ta) (hdb : (x == ("__debug__" : Str)) = false := by decide) (he : starEach (e :: es) X.env = (false, eval e X.env) :: starEach es X.env := by rfl)
    (hpl : (backTo pos (starEach es X.env)).any (·.1) = false := by rfl) : L2N.PMk X (.Call (.Name x p) (e :: es) [] pos) (tMkO C sp [] ta) := fun pins s σ H Q I h => by
  obtain ⟨nm, q, N, bs, bm, sn, sub, ab, col, dd, k0, k1, k2, k3, k5, hC, hbm⟩ := T.cls
  refine wpAny_Call_Name_kw (ld_glob I hg hm (PySem.W.callWith_K (h₀ := X.base) I.ok.mod.kin T.kC (thn (ha.run pos pins s σ H _ I h) fun us ⟨hp, g, dr, tk, os⟩ ⟨vs, H1, I1, r1, hz, q1⟩ => ⟨I1.kIn, ?_⟩) he hpl) hdb)
  show wpAny _ _ (call (.ref C) us) _ _ _
  let a : Addr := hp.objs.size + 1
  let h1 : Heap := (hp.push (PySem.W.kdv_tup us)).push (PySem.HandSPX.excO C hp.objs.size)
  have le : hp.objs.size ≤ a := Nat.le_succ _
  have q2 := q1 a (I1.hok.fresh le)
  rw [List.append_nil] at q2
  have keep : ∀ b o, hp.get? b = some o → h1.get? b = some o := fun b o z => Heap.get?_push_of_some _ (Heap.get?_push_of_some _ z)
  have ga : h1.get? a = some (PySem.HandSPX.excO C hp.objs.size) := by
    show ((hp.push (PySem.W.kdv_tup us)).push (PySem.HandSPX.excO C hp.objs.size)).get? (hp.objs.size + 1) = _
    heap_get
  have I2 : Inv X pins σ (upd H1 a (exo a C none)) ⟨h1, g, dr, tk, os⟩ := I1.laid (t' := tk) (a := a) (o := exo a C none) (h' := h1) keep le (exo_ok ga)
  have rv : Vals (V.ref a :: vs) (Value.ref a :: us) := .cons rfl r1
  have len : (Value.ref a :: us ++ []).length = ps.length := by
    rw [List.append_nil, ← rv.length]
    exact F1.len _ _ _ _ q2
  have bb := hb _ (Value.ref a :: us) I2.kIn len
  rw [List.append_nil] at bb
  have few : us.length ≤ sizeLine := by
    rw [← Paired.length r1, sizeLine_eq]; omega
  refine wpAny_call (PySem.HandSPX.call_own F.excBase_ValueError (fun Y => PySem.HandSPX.refsVE_contains Y bm hbm) (I1.kIn _ _ hC) (PySem.W.looks_findIn I1.kIn iC) (fun self => PySem.W.bind_fn I1.kIn self tI) few (codeAny_mono (F1.run _ X.stack _ _ ⟨Value.ref a :: us, []⟩ (Value.ref a :: us) _ _ (fun _ _ _ => False) (hr.make C us []) (I2.env0.make C us []) bb rv q2) fun r s' z => ?_))
  match r, z with
  | .error er, z => exact hx pins σ _ _ er s' I2 z
  | .ok (.ret u), z =>
    obtain ⟨v, H2, os2, bare2, un2, hok2, ru, ev, d, fs, ea, ed, hd1, q3⟩ := z
    subst ev
    obtain ⟨h2, g2, d2, t2, os'⟩ := s'
    obtain ⟨t0, G, J, kG, ge, hoe, na⟩ := mk_end0 (d2 := d2) (t2 := t2) I1 le keep un2 hok2 os2 bare2 ea ed hd1
    exact ⟨ru, a, _, _, ⟨G, g2, d2, t2, os'⟩, _, .ref C, some d, rfl, J, kG, ge, hoe, ⟨rfl, rfl, fun vs hv => by cases hv; rfl⟩, rfl, rfl, na, rfl, bare2, raises_own T.exC T.tyC, q3⟩
  | .ok .next, z => exact z.elim
  | .ok .brk, z => exact z.elim
  | .ok .cont, z => exact z.elim
end
end Fo
end
section
set_option Elab.async false
set_option linter.all false
set_option maxRecDepth 100000
set_option maxHeartbeats 4000000
namespace Fo
open PySem PySem.Spec PyProof.Rows L2

/-- a value whose kind is known: a number, a bool, None, a text, a tuple, a list -/
def Kn (H : Hp) : V → Prop
  | .int _ => True
  | .bl _ => True
  | .non => True
  | .str _ => True
  | .ref a => (∃ xs, H a = some (.tup xs)) ∨ ∃ xs, H a = some (.lst xs)
  | _ => False
def isI : V → Bool
  | .int _ => true
  | _ => false
def inW (x : V) (lo hi : Int) : Bool := match x with
  | .int i => decide (lo ≤ i) && decide (i ≤ hi)
  | _ => false
def spIsInt : Sp := fun vs H Q _ => ∃ x, vs = [x] ∧ Kn H x ∧ Q (.bl (isI x)) H
def spWithin : Sp := fun vs H Q _ => ∃ x lo hi, vs = [x, .int lo, .int hi] ∧ Kn H x ∧ Q (.bl (inW x lo hi)) H
theorem kn_int {K : PySem.W.Frag} {H : Hp} {x : V} (h : Kn H x) : ∃ t b c, TyX K H x t ∧ PySem.W.kitOne K t (.type "int") = some b ∧ PySem.W.kitOne K t (.type "bool") = some c ∧ (b && !c) = isI x := by
  cases x with
  | int i => exact ⟨_, true, false, .base (.int i), kit_ty (by decide +kernel), kit_ty (by decide +kernel), rfl⟩
  | bl i => exact ⟨_, true, true, .base (.bl i), kit_ty (by decide +kernel), kit_ty (by decide +kernel), rfl⟩
  | non => exact ⟨_, false, false, .base .non, kit_ty (by decide +kernel), kit_ty (by decide +kernel), rfl⟩
  | str i => exact ⟨_, false, false, .base (.str i), kit_ty (by decide +kernel), kit_ty (by decide +kernel), rfl⟩
  | ref a =>
    rcases h with ⟨xs, h⟩ | ⟨xs, h⟩
    · exact ⟨_, false, false, .base (.tup h), kit_ty (by decide +kernel), kit_ty (by decide +kernel), rfl⟩
    · exact ⟨_, false, false, .base (.lst h), kit_ty (by decide +kernel), kit_ty (by decide +kernel), rfl⟩
  | _ => exact False.elim h
section
variable {P : Program} {w : World} {K : PySem.W.Frag} {mg : Str → Option Value} {base : Heap}
theorem D_is_integer (T : Hd K mg) : Fn P w K mg base CX0 1 "is_integer" spIsInt := by
  obtain ⟨fd, F⟩ := T.d_is_integer
  refine ⟨T.g_is_integer, T.p_is_integer, fd, ["thing"], ?_, FunD.bindsN F fun _ _ _ _ _ _ us hl => match us, hl with | [_], _ => rfl⟩
  refine F.ok sc_is_integer (fun vs H Q E h => ?_) (fun cdv A outer s H vs Q E hr h => ⟨_, PSs.nox (pss_one (ps_ret (pe_and (pe_callB call_isi rfl T.f_isinstance bt_isinstance (pa_cons (pv 0) (pa_cons (pe_bltn (v := .ty "int") rfl T.f_int bt_int rfl) pa_nil))) (pe_one (pe_not (pe_callB call_isi rfl T.f_isinstance bt_isinstance (pa_cons (pv 0) (pa_cons (pe_bltn (v := .ty "bool") rfl T.f_bool bt_bool rfl) pa_nil)))))))), ?_⟩)
  · obtain ⟨x, rfl, _⟩ := h; rfl
  · obtain ⟨x, rfl, hk, q⟩ := h
    obtain ⟨t, b, c, ty, k1, k2, e⟩ := kn_int (K := K) hk
    refine ⟨_, rfl, x, .ty "int", t, .type "int", b, rfl, .ty _, ty, k1, b, rfl, ?_⟩
    cases b with
    | false =>
      refine iteF ?_
      rw [← e] at q
      exact q
    | true =>
      refine iteT ⟨_, rfl, x, .ty "bool", t, .type "bool", c, rfl, .ty _, ty, k2, c, rfl, ?_⟩
      rw [← e] at q
      exact q
theorem D_is_within (T : Hd K mg) : Fn P w K mg base CX0 2 "is_within" spWithin := by
  have D_is_integer := fun {P w base} => D_is_integer (P := P) (w := w) (base := base) T
  obtain ⟨fd, F⟩ := T.d_is_within
  refine ⟨T.g_is_within, T.p_is_within, fd, ["thing", "least", "most"], ?_, FunD.bindsN F fun _ _ _ _ _ _ us hl => match us, hl with | [_, _, _], _ => rfl⟩
  refine F.ok sc_is_within (fun vs H Q E h => ?_) (fun cdv A outer s H vs Q E hr h => ⟨_, PSs.nox (pss_one (ps_ret (pe_and (pe_fn D_is_integer (hr.mono (by first | decide | omega)) rfl pass0 (pa_cons (pv 0) pa_nil)) (pe_one (pe_chain op_le op_le (pv 1) (pv 0) (pv 2)))))), ?_⟩)
  · obtain ⟨x, _, _, rfl, _⟩ := h; rfl
  · obtain ⟨x, lo, hi, rfl, hk, q⟩ := h
    refine ⟨_, rfl, x, rfl, hk, isI x, rfl, ?_⟩
    cases x with
    | int i =>
      refine iteT ⟨_, rfl, _, rfl, _, _, rfl, rfl, _, rfl, ?_⟩
      by_cases h1 : lo ≤ i
      · rw [decide_eq_true h1]
        refine iteT ⟨_, rfl, _, _, rfl, rfl, ?_⟩
        show Q (.bl (decide (i ≤ hi))) H
        rw [show decide (i ≤ hi) = inW (.int i) lo hi by show _ = (decide _ && decide _); rw [decide_eq_true h1, Bool.true_and]]
        exact q
      · rw [decide_eq_false h1]
        refine iteF ?_
        rw [show false = inW (.int i) lo hi by show _ = (decide _ && decide _); rw [decide_eq_false h1, Bool.false_and]]
        exact q
    | _ => exact iteF q
end
end Fo
end
section
set_option Elab.async false
set_option linter.all false
set_option maxRecDepth 100000
set_option maxHeartbeats 4000000
namespace Fo
open PySem PySem.Spec PyProof.Rows L2
def bsum (ns : List Nat) : Nat := (ns.map (2 ^ ·)).sum
def spBitsL : Sp := fun vs H Q _ => ∃ a ns, vs = [.ref a] ∧ H a = some (.lst (ns.map iV)) ∧ (∀ n ∈ ns, n < 64) ∧ ns.length ≤ 64 ∧ ∀ H', Same H H' → Q (iV (bsum ns)) H'
def spWithout : Sp := fun vs H Q _ => ∃ m x : Nat, vs = [iV m, iV x] ∧ x < 64 ∧ 2 ^ x ≤ m ∧ Q (iV (m - 2 ^ x)) H
def spHas : Sp := fun vs H Q _ => ∃ m x : Nat, vs = [iV m, iV x] ∧ Q (.bl (m.testBit x)) H
def spLeast : Sp := fun vs H Q _ => ∃ m : Nat, vs = [iV m] ∧ 0 < m ∧ m < 64 ∧ ∀ p : Nat, m.testBit p = true → p < 6 → Q (iV p) H
theorem bsum_int (ns : List Nat) : (ns.map fun n => (2 : Int) ^ n).sum = ((bsum ns : Nat) : Int) := by
  unfold bsum
  induction ns with
  | nil => rfl
  | cons n ns ih => rw [List.map_cons, List.sum_cons, List.map_cons, List.sum_cons, ih, Int.natCast_add, p2]
theorem least_law : ∀ m : Fin 64, 0 < m.val → ∃ p : Fin 6, m.val.testBit p.val = true ∧ ((Builtin.Int.intBits (Builtin.bitAnd ((m.val : Nat) : Int) (-((m.val : Nat) : Int))) : Nat) : Int) - 1 = ((p.val : Nat) : Int) := by decide +kernel
section
variable {P : Program} {w : World} {K : PySem.W.Frag} {mg : Str → Option Value} {base : Heap}
theorem D_bits (T : Hd K mg) : Fn P w K mg base CX0 1 "bits" spBitsL := by
  obtain ⟨fd, F⟩ := T.d_bits
  refine ⟨T.g_bits, T.p_bits, fd, ["numbers"], ?_, FunD.bindsN F fun _ _ _ _ _ _ us hl => match us, hl with | [_], _ => rfl⟩
  refine F.ok sc_bits (fun vs H Q E h => ?_) (fun cdv A outer s H vs Q E hr h => ⟨_, PSs.nox (pss_one (ps_ret (pe_callB (cr_sum rfl) rfl T.f_sum bt_sum (pa_cons (pe_lc (own := [("number", 1)]) rfl sc_bits.nd (pi_list (pv 0)) (blkOk_by (own := [("number", 1)]) (N := n_bits) (sc := defScope s_bits) (by decide +kernel)) (fun _ _ _ _ _ => (pg_name (i := 1) sc_bits.nd rfl (.inl rfl))) (fun _ _ _ _ _ => pts_nil) (fun _ _ _ _ _ => (pe_op op_oneShl pe_int (pv 1)))) pa_nil)))), ?_⟩)
  · obtain ⟨x, _, rfl, _⟩ := h; rfl
  · obtain ⟨a, ns, rfl, ha, hb, hl, q⟩ := h
    refine ⟨_, rfl, a, rfl, ⟨_, SqL.of ha⟩, fun D hD => ?_⟩
    refine lc_same walk_list hD (fun i acc _ => acc = (ns.take i).map fun n => V.int (2 ^ n)) (by rw [List.length_map]; exact small1000 (by omega)) (fun H' k => SqL.of (k _ _ ha)) (fun _ _ _ _ _ _ _ h => h) rfl ?_ ?_
    · rintro i v H1 H' acc Fin Skip hi hla k r ⟨rfl, y⟩ fin skip
      obtain ⟨n, hn, rfl⟩ := map_at y
      refine ⟨rfl, ?_⟩
      refine ⟨_, rfl, n, rfl, rfl, by have := hb n (List.mem_of_getElem? hn); omega, ?_⟩
      refine fin _ _ (Same.refl _) ?_
      rw [r, take_snoc hn, List.map_append]; rfl
    · intro H' acc k hla hd r
      refine ⟨D, ns.map fun n => (2 : Int) ^ n, rfl, SqL.of ?_, ?_⟩
      · rw [hd, r, List.length_map, List.take_length, List.map_map]; rfl
      · rw [bsum_int]; exact q H' k
theorem D_without (T : Hd K mg) : Fn P w K mg base CX0 1 "without" spWithout := by
  obtain ⟨fd, F⟩ := T.d_without
  refine ⟨T.g_without, T.p_without, fd, ["lot", "number"], ?_, FunD.bindsN F fun _ _ _ _ _ _ us hl => match us, hl with | [_, _], _ => rfl⟩
  refine F.ok sc_without (fun vs H Q E h => ?_) (fun cdv A outer s H vs Q E hr h => ⟨_, PSs.nox (pss_one (ps_ret (pe_op op_sub (pv 0) (pe_op op_oneShl pe_int (pv 1))))), ?_⟩)
  · obtain ⟨m, x, rfl, _⟩ := h; rfl
  · obtain ⟨m, x, rfl, hx, hm, q⟩ := h
    refine ⟨_, rfl, ⟨_, rfl, x, rfl, rfl, by omega, ?_⟩⟩
    refine ⟨_, _, rfl, rfl, ?_⟩
    show Q (V.int ((m : Int) - 2 ^ x)) H
    rw [← p2, ← Int.natCast_sub hm]
    exact q
theorem D_has (T : Hd K mg) : Fn P w K mg base CX0 1 "has" spHas := by
  obtain ⟨fd, F⟩ := T.d_has
  refine ⟨T.g_has, T.p_has, fd, ["lot", "number"], ?_, FunD.bindsN F fun _ _ _ _ _ _ us hl => match us, hl with | [_, _], _ => rfl⟩
  refine F.ok sc_has (fun vs H Q E h => ?_) (fun cdv A outer s H vs Q E hr h => ⟨_, PSs.nox (pss_one (ps_ret (pe_cmpR op_eq (pe_op op_odd (pe_op op_shrN (pv 0) (pv 1)) pe_int) pe_int (nomark _)))), ?_⟩)
  · obtain ⟨m, x, rfl, _⟩ := h; rfl
  · obtain ⟨m, x, rfl, q⟩ := h
    refine ⟨_, rfl, _, rfl, m, x, rfl, rfl, m / 2 ^ x, ?_, rfl, ?_⟩
    · rw [← p2, ← Int.natCast_ediv]
    · refine ⟨rfl, ?_⟩
      rw [Nat.testBit_eq_decide_div_mod_eq] at q
      rw [show decide (V.int (((m / 2 ^ x % 2 : Nat)) : Int) = V.int 1) = decide (m / 2 ^ x % 2 = 1) from decide_eq_decide.mpr ⟨fun e => by injection e with e; omega, fun e => by rw [e]; rfl⟩]
      exact q
theorem D_least_of (T : Hd K mg) : Fn P w K mg base CX0 1 "least_of" spLeast := by
  obtain ⟨fd, F⟩ := T.d_least_of
  refine ⟨T.g_least_of, T.p_least_of, fd, ["lot"], ?_, FunD.bindsN F fun _ _ _ _ _ _ us hl => match us, hl with | [_], _ => rfl⟩
  refine F.ok sc_least_of (fun vs H Q E h => ?_) (fun cdv A outer s H vs Q E hr h => ⟨_, PSs.nox (pss_one (ps_ret (pe_op op_sub (pe_bits (pe_op op_and (pv 0) (pe_un un_neg (pv 0)))) pe_int))), ?_⟩)
  · obtain ⟨m, rfl, _⟩ := h; rfl
  · obtain ⟨m, rfl, h0, h64, q⟩ := h
    obtain ⟨p, hp, e⟩ := least_law ⟨m, h64⟩ h0
    refine ⟨_, rfl, _, rfl, _, rfl, _, _, rfl, rfl, _, rfl, _, _, rfl, rfl, ?_⟩
    have := q p.val hp p.isLt
    rw [show iV p.val = V.int _ from congrArg V.int e.symm] at this
    exact this
end
end Fo
end
section
set_option Elab.async false
set_option linter.all false
set_option maxRecDepth 100000
set_option maxHeartbeats 4000000
namespace Fo
open PySem PySem.Spec PyProof.Rows L2
/-- all but lists stays -/
def KpL (H H' : Hp) : Prop := ∀ b u, (∀ xs, u ≠ HO.lst xs) → H b = some u → H' b = some u
theorem Same.kl {H H' : Hp} (h : Same H H') : KpL H H' := fun b u _ e => h b u e
theorem SmX.kl {H H' : Hp} {D : Addr} {ys : List V} (h : SmX D H H') (hD : H D = some (.lst ys)) : KpL H H' := fun b u n e => h b u (ne_of e hD (n ys)) e
theorem Tups.kl {H H' : Hp} {vs : List V} {ts : List (List V)} (h : Tups H vs ts) (k : KpL H H') : Tups H' vs ts := Paired.mapP h fun _ _ ⟨p, e, q⟩ => ⟨p, e, k _ _ (fun _ z => nomatch z) q⟩
theorem Rows.kl {H H' : Hp} {a : Addr} {rs : List (List Nat)} (h : Rows H a rs) (k : KpL H H') : Rows H' a rs := let ⟨vs, e, t⟩ := h; ⟨vs, k _ _ (fun _ z => nomatch z) e, t.kl k⟩
abbrev kk (p t : Nat) : List Key := [Sum.inl ((p : Nat) : Int), Sum.inl ((t : Nat) : Int)]
theorem kk_inj {p t p' t' : Nat} (h : kk p t = kk p' t') : p = p' ∧ t = t' := by
  injection h with h1 h2
  injection h1 with h1
  injection h2 with h2
  injection h2 with h2
  exact ⟨Int.ofNat.inj h1, Int.ofNat.inj h2⟩
/-- the keys of a memo: a person's mask and a thing's mask -/
def kSet : List (List Key) := (List.range 64).flatMap fun p => (List.range 64).map fun t => kk p t
theorem kSet_len : kSet.length = 4096 := by decide +kernel
theorem mem_kSet {p t : Nat} (hp : p < 64) (ht : t < 64) : kk p t ∈ kSet :=
  List.mem_flatMap.mpr ⟨p, List.mem_range.mpr hp, List.mem_map.mpr ⟨t, List.mem_range.mpr ht, rfl⟩⟩
def Ctr (K : PySem.W.Frag) (H : Hp) (c da : Addr) (rows : List (List Nat)) : Prop := ∃ dx ra kvs, H c = some (.ins (He.ga K "Counter") dx [("rows", .ref ra), ("whole", iV (2 ^ rows.length - 1)), ("known", .ref da)]) ∧ Rows H ra rows ∧
  H da = some (.dT kvs) ∧ KvOk kSet kvs ∧ (valV kvs (kk 0 0)).isSome = true ∧ ∀ (p t : Nat) v, valV kvs (kk p t) = some v → v = iV (cntm rows p t)
theorem Ctr.kl {K : PySem.W.Frag} {H H' : Hp} {c da : Addr} {rows : List (List Nat)} (h : Ctr K H c da rows) (k : KpL H H') : Ctr K H' c da rows := by
  obtain ⟨dx, ra, kvs, h1, h2, h3, h4⟩ := h
  exact ⟨dx, ra, kvs, k _ _ (fun _ z => nomatch z) h1, h2.kl k, k _ _ (fun _ z => nomatch z) h3, h4⟩
theorem Ctr.same {K : PySem.W.Frag} {H H' : Hp} {c da : Addr} {rows : List (List Nat)} (h : Ctr K H c da rows) (k : Same H H') : Ctr K H' c da rows := h.kl (Same.kl k)
/-- rows as they are asked here -/
structure RowsOk (rows : List (List Nat)) : Prop where
  len : rows.length ≤ 6
  nd : ∀ r ∈ rows, r.Nodup
  lt : ∀ r ∈ rows, ∀ x ∈ r, x < rows.length
def spCtrInit (K : PySem.W.Frag) : Sp := fun vs H Q _ => ∃ c dx ra rows, vs = [.ref c, .ref ra] ∧ H c = some (.ins (He.ga K "Counter") dx []) ∧ Rows H ra rows ∧ rows.length ≤ 6 ∧ ∀ H' da, H da = none → SmX c H H' → Ctr K H' c da rows → Q .non H'
def spAmong (K : PySem.W.Frag) : Sp := fun vs H Q _ => ∃ c da rows, ∃ p t : Nat, ∃ r, vs = [.ref c, iV p, iV t] ∧ Ctr K H c da rows ∧ rows[p]? = some r ∧ r.length ≤ 100 ∧ ∀ H' l, H l = none → Same H H' → H' l = some (.lst ((opn r t).map iV)) → Q (.ref l) H'
def spOf (K : PySem.W.Frag) (d : Nat) : Sp := fun vs H Q _ => ∃ c da rows, ∃ p t : Nat, vs = [.ref c, iV p, iV t] ∧ Ctr K H c da rows ∧ RowsOk rows ∧ p < 2 ^ rows.length ∧ t < 64 ∧ (bitsOf p).length ≤ d ∧ (bitsOf p).length = (bitsOf t).length ∧
  ∀ H', SmX da H H' → Ctr K H' c da rows → Q (iV (cntm rows p t)) H'
theorem pow_le6 {n : Nat} (h : n ≤ 6) : 2 ^ n ≤ 64 := by
  have : 2 ^ n ≤ 2 ^ 6 := Nat.pow_le_pow_right (by omega) h
  omega
section
variable {P : Program} {w : World} {K : PySem.W.Frag} {mg : Str → Option Value} {base : Heap}
theorem D_Counter_init (T : Hd K mg) : Cn P w K mg base CX0 2 "Counter" (spCtrInit K) := by
  obtain ⟨fd, F⟩ := T.d_Counter_init
  refine ⟨T.g_Counter, T.mk_Counter, fd, ["self", "rows"], ?_, FunD.bindsN F fun _ _ _ _ _ _ us hl => match us, hl with | [_, _], _ => rfl⟩
  refine F.ok sc_Counter_init (fun vs H Q E h => ?_) (fun cdv A outer s H vs Q E hr h => ⟨_, PSs.nox (have hu := hu_of hr; (pss_cons (ps_fld (pv 0) (pv 1) rfl)
      (pss_cons (ps_fld (pv 0) (pe_op op_sub (pe_op op_oneShl pe_int (pe_callB call_len rfl T.f_len bt_len (pa_cons (pv 1) pa_nil))) pe_int) rfl)
      (pss_one (ps_fld (pv 0) (pe_dispT1 hu (pe_tup (pa_cons pe_int (pa_cons pe_int pa_nil))) pe_int) rfl))))), ?_⟩)
  · obtain ⟨_, _, _, _, rfl, _⟩ := h; rfl
  · obtain ⟨c, dx, ra, rows, rfl, hc, hrw, hl, q⟩ := h
    obtain ⟨rv, hra, hrl⟩ := hrw.len
    refine ⟨_, rfl, _, rfl, c, _, dx, [], rfl, hc, T.c_Counter, T.n_Counter_rows, by decide, ?_⟩
    have n1 : ra ≠ c := ne_of hra hc (fun z => nomatch z)
    refine ⟨_, rfl, _, rv.length, rfl, .inr ⟨rv, SqT.of (by rw [upd_ne n1]; exact hra), rfl⟩, rv.length, rfl, rfl, by rw [hrl]; omega, _, _, rfl, rfl, _, rfl, c, _, dx, _, rfl, upd_same, T.c_Counter, T.n_Counter_whole, (by show _ < 1000; exact (by decide : 1 < 1000)), ?_⟩
    rw [upd_upd]
    intro da hda
    refine ⟨sz2, fun kp hkp => ?_⟩
    have c1 : c ≠ da := ne_of_none upd_same hda
    have d1 : da ≠ kp := ne_of_none upd_same hkp
    refine ⟨by rw [upd_ne d1]; exact upd_same, kp, [.inl 0, .inl 0], rfl, upd_same, _, rfl, c, _, dx, _, rfl, (by rw [upd_ne c1, upd_ne (ne_of_none (by rw [upd_ne c1]; exact upd_same) hkp)]; rw [upd_ne c1]; exact upd_same), T.c_Counter, T.n_Counter_known, (by show _ < 1000; exact (by decide : 2 < 1000)), ?_⟩
    have er : V.int ((2 : Int) ^ rv.length - 1) = iV (2 ^ rows.length - 1) := by
      rw [hrl]
      show V.int _ = V.int _
      rw [← p2, Int.natCast_sub Nat.one_le_two_pow]
      rfl
    refine q _ da (by rw [upd_ne c1.symm] at hda; exact hda) (fun b u nb e => ?_) ⟨dx, ra, [([.inl 0, .inl 0], .int 1)], ?_, ?_, ?_, ?_, rfl, ?_⟩
    · have b1 : b ≠ da := fun z => by subst z; rw [upd_ne nb] at hda; rw [hda] at e; cases e
      have b2 : b ≠ kp := fun z => by subst z; rw [upd_ne b1, upd_ne nb] at hkp; rw [hkp] at e; cases e
      rw [upd_ne nb, upd_ne b1, upd_ne b2, upd_ne b1, upd_ne nb]; exact e
    · rw [upd_same, ← er]; rfl
    · refine hrw.x (b := c) (fun b u nb e => ?_) (fun xs z => by rw [hc] at z; cases z)
      have b1 : b ≠ da := fun z => by subst z; rw [upd_ne nb] at hda; rw [hda] at e; cases e
      have b2 : b ≠ kp := fun z => by subst z; rw [upd_ne b1, upd_ne nb] at hkp; rw [hkp] at e; cases e
      rw [upd_ne nb, upd_ne b1, upd_ne b2, upd_ne b1, upd_ne nb]; exact e
    · rw [upd_ne c1.symm, upd_same]
    · exact ⟨by simp, fun p hp => by rw [List.mem_singleton.mp hp]; exact mem_kSet (p := 0) (t := 0) (by omega) (by omega)⟩
    · intro p t v e
      have e : valV [(kk 0 0, V.int 1)] (kk p t) = some v := e
      by_cases z : kk 0 0 = kk p t
      · obtain ⟨z1, z2⟩ := kk_inj z
        subst z1
        rw [cntm_zero]
        rw [valV_pos (p := (kk 0 0, V.int 1)) z] at e
        injection e with e
        rw [← e]; rfl
      · rw [valV_neg (p := (kk 0 0, V.int 1)) z] at e; cases e
theorem D_Counter_among (T : Hd K mg) : Md P w K mg base CX0 2 "Counter" "among" (spAmong K) := by
  have D_has := fun {P w base} => D_has (P := P) (w := w) (base := base) T
  obtain ⟨fd, F⟩ := T.d_Counter_among
  refine ⟨T.c_Counter, T.m_Counter_among, fd, ["self", "person", "things"], ?_, FunD.bindsN F fun _ _ _ _ _ _ us hl => match us, hl with | [_, _, _], _ => rfl⟩
  refine F.ok sc_Counter_among (fun vs H Q E h => ?_) (fun cdv A outer s H vs Q E hr h => ⟨_, PSs.nox (have hu := hu_of hr; (pss_one (ps_ret (pe_lc (own := [("thing", 3)]) rfl sc_Counter_among.nd (pi_tup (pe_ix ix_tup (pe_fld (pv 0) rfl) (pv 1) (fun _ _ => rfl))) (blkOk_by (own := [("thing", 3)]) (N := n_Counter_among) (sc := defScope s_Counter_among) (by decide +kernel)) (fun _ _ _ _ _ => (pg_name (i := 3) sc_Counter_among.nd rfl (.inl rfl))) (fun _ _ _ _ _ => (pts_one (pt_val (pe_fn D_has (hr.mono (by first | decide | omega)) rfl pass0 (pa_cons (pv 2) (pa_cons (pv 3) pa_nil)))))) (fun _ _ _ _ _ => (pv 3)))))), ?_⟩)
  · obtain ⟨_, _, _, _, _, _, rfl, _⟩ := h; rfl
  · obtain ⟨c, da, rows, p, t, r, rfl, hc, hr', h100, q⟩ := h
    obtain ⟨dx, ra, kvs, h1, h2, h3, h4⟩ := hc
    obtain ⟨rv, pr, hra, hv, hp⟩ := h2.at hr'
    refine ⟨_, rfl, c, _, dx, _, _, rfl, h1, T.c_Counter, T.n_Counter_rows, rfl, _, rfl, ra, rv, _, _, rfl, rfl, SqT.of hra, atI_nat hv, pr, rfl, ⟨_, SqT.of hp⟩, fun D hD => ?_⟩
    refine lc_same walk_tup hD (fun i acc _ => acc = (((r.take i).filter fun x => t.testBit x).map iV)) (by rw [List.length_map]; exact small1000 (by omega)) (fun H' k => SqT.of (k _ _ hp)) (fun _ _ _ _ _ _ _ h => h) rfl ?_ ?_
    · rintro i v H1 H' acc Fin Skip hi hla k rr ⟨rfl, y⟩ fin skip
      obtain ⟨x, hx, rfl⟩ := map_at y
      refine ⟨rfl, ?_⟩
      refine ⟨_, rfl, _, rfl, t, x, rfl, t.testBit x, rfl, ?_⟩
      cases hb : t.testBit x with
      | true =>
        rw [if_pos rfl]
        refine ⟨_, rfl, fin _ _ (Same.refl _) ?_⟩
        rw [rr, filter_snoc hx, hb, List.map_append]; rfl
      | false =>
        rw [if_neg (by decide)]
        refine skip _ (Same.refl _) ?_
        rw [rr, filter_snoc hx, hb, if_neg (by decide), List.append_nil]
    · intro H' acc k hla hd rr
      refine q H' D hD k ?_
      rw [hd, rr, List.length_map, List.take_length]; rfl
theorem D_Counter_of_step (T : Hd K mg) (d : Nat) (sp' : Sp) (ih : ∀ {P : Program} {w : World} {base : Heap}, Md P w K mg base CX0 (2 * d + 1) "Counter" "of" sp') (hsp : ∀ d', d = d' + 1 → sp' = spOf K d') : Md P w K mg base CX0 (2 * d + 3) "Counter" "of" (spOf K d) := by
  have D_least_of := fun {P w base} => D_least_of (P := P) (w := w) (base := base) T
  have D_without := fun {P w base} => D_without (P := P) (w := w) (base := base) T
  have D_Counter_among := fun {P w base} => D_Counter_among (P := P) (w := w) (base := base) T
  obtain ⟨fd, F⟩ := T.d_Counter_of
  refine ⟨T.c_Counter, T.m_Counter_of, fd, ["self", "people", "things"], ?_, FunD.bindsN F fun _ _ _ _ _ _ us hl => match us, hl with | [_, _, _], _ => rfl⟩
  refine F.ok sc_Counter_of (fun vs H Q E h => ?_) (fun cdv A outer s H vs Q E hr h => ⟨_, PSs.nox (have hu := hu_of hr; (pss_cons (ps_set (i := 3) sc_Counter_of.nd rfl (.inl rfl) (pe_tup (pa_cons (pv 1) (pa_cons (pv 2) pa_nil))))
      (pss_cons (ps_if (pt_cmp (pc_dnotin hu (pv 3) (pe_fld (pv 0) rfl)) rfl)
        (pss_cons (ps_set (i := 4) sc_Counter_of.nd rfl (.inl rfl) (pe_fn D_least_of (hr.mono (by first | decide | omega)) rfl pass0 (pa_cons (pv 1) pa_nil)))
        (pss_cons (ps_set (i := 5) sc_Counter_of.nd rfl (.inr rfl) (pe_fn D_without (hr.mono (by first | decide | omega)) rfl pass0 (pa_cons (pv 1) (pa_cons (pv 4) pa_nil))))
        (pss_one (ps_dput hu (pe_fld (pv 0) rfl) (pv 3) (pe_callB (cr_sum rfl) rfl T.f_sum bt_sum (pa_cons (pe_lc (own := [("one", 6)]) rfl sc_Counter_of.nd (pi_list (pe_md D_Counter_among (hr.mono (by first | decide | omega)) pass0 (pv 0) (pa_cons (pv 4) (pa_cons (pv 2) pa_nil)))) (blkOk_by (own := [("one", 6)]) (N := n_Counter_of) (sc := defScope s_Counter_of) (by decide +kernel)) (fun _ _ _ _ _ => (pg_name (i := 6) sc_Counter_of.nd rfl (.inl rfl))) (fun _ _ _ _ _ => pts_nil) (fun _ _ _ _ _ => (pe_mdK ih (hr.mono (by first | decide | omega)) pass0 (pv 0) (pa_cons (pv 5) (pa_cons (pe_fn D_without (hr.mono (by first | decide | omega)) rfl pass0 (pa_cons (pv 2) (pa_cons (pv 6) pa_nil))) pa_nil))))) pa_nil)) rfl))))
        pss_nil)
      (pss_one (ps_ret (pe_dget hu (pe_fld (pv 0) rfl) (pv 3) (fun _ _ => rfl))))))), ?_⟩)
  · obtain ⟨_, _, _, _, _, rfl, _⟩ := h; rfl
  · obtain ⟨c, da, rows, p, t, rfl, hc, ro, hp, ht, hd, hpt, q⟩ := h
    have hp64 : p < 64 := Nat.lt_of_lt_of_le hp (pow_le6 ro.len)
    obtain ⟨dx, ra, kvs, h1, h2, h3, h4, h5, h6⟩ := id hc
    refine ⟨_, rfl, _, rfl, sz2, fun kp hkp => ?_⟩
    have sm : Same H (upd H kp (.tup [iV p, iV t])) := Same.new hkp
    have hk : (upd H kp (.tup [iV p, iV t])) kp = some (.tup ((kk p t).map kV)) := upd_same
    generalize (upd H kp (.tup [iV p, iV t])) = H1 at sm hk
    have hc1 := hc.same sm
    refine ⟨_, rfl, _, rfl, c, _, dx, _, _, rfl, sm _ _ h1, T.c_Counter, T.n_Counter_known, rfl, da, _, rfl, DGet.t (sm _ _ h3) hk, ?_⟩
    cases hv : valV kvs (kk p t) with
    | some v =>
      refine ⟨false, rfl, iteF ?_⟩
      refine ⟨_, rfl, c, _, dx, _, _, rfl, sm _ _ h1, T.c_Counter, T.n_Counter_known, rfl, ?_⟩
      refine ⟨_, rfl, da, v, rfl, by rw [← hv]; exact DGet.t (sm _ _ h3) hk, ?_⟩
      rw [h6 p t v hv]
      exact q _ ((Same.x sm) da) hc1
    | none =>
      refine ⟨true, rfl, iteT ?_⟩
      have hpos : 0 < p := by
        rcases Nat.eq_zero_or_pos p with e | e
        · subst e
          have : bitsOf 0 = [] := by decide
          rw [this] at hpt
          have t0 := zero_of_bits ht (List.eq_nil_of_length_eq_zero hpt.symm)
          subst t0
          rw [hv] at h5; cases h5
        · exact e
      refine ⟨_, rfl, p, rfl, hpos, hp64, fun x hx hx6 => ?_⟩
      have lx := clr_le hx
      refine ⟨_, rfl, _, rfl, p, x, rfl, by omega, lx, ?_⟩
      have hxn : x < rows.length := by
        rcases Nat.lt_or_ge x rows.length with z | z
        · exact z
        · have := Nat.testBit_lt_two_pow (Nat.lt_of_lt_of_le hp (Nat.pow_le_pow_right (by omega) z))
          rw [this] at hx; cases hx
      have hrow : rows[x]? = some rows[x] := List.getElem?_eq_getElem hxn
      generalize rows[x] = r at hrow
      have hrm := List.mem_of_getElem? hrow
      have hbl := bitsOf_len hx6 hx
      obtain ⟨d', rfl⟩ : ∃ d', d = d' + 1 := ⟨d - 1, by omega⟩
      have esp := hsp d' rfl
      subst esp
      have hrl : r.length ≤ 6 := by
        have := nodup_len (ro.nd r hrm) (k := List.range rows.length) (fun y hy => List.mem_range.mpr (ro.lt r hrm y hy))
        rw [List.length_range] at this
        have := ro.len
        omega
      refine ⟨_, rfl, c, dx, _, rfl, sm _ _ h1, rfl, _, rfl, _, rfl, c, da, rows, x, t, r, rfl, hc1, hrow, by omega, fun H2 l hl sm2 hl2 => ⟨l, rfl, ⟨_, SqL.of hl2⟩, fun D hD => ?_⟩⟩
      have sm12 : Same H H2 := Same.trans sm sm2
      have hc2 := hc1.same sm2
      refine lc_S walk_list hD (fun b => b = da) (fun i acc H => acc = ((opn r t).take i).map (fun y => iV (cntm rows (p - 2 ^ x) (t - 2 ^ y))) ∧ Ctr K H c da rows) (ne_of_none (sm12 _ _ h3) hD).symm (by
        rw [List.length_map]
        have : (opn r t).length ≤ r.length := List.length_filter_le _ _
        exact small1000 (by omega)) (fun i acc H k _ => SqL.of (k _ _ (ne_of hl2 (sm12 _ _ h3) (fun z => nomatch z)) hl2)) (fun i acc H H' ys hd k r => ⟨r.1, r.2.kl (SmX.kl k hd)⟩) ⟨rfl, hc2.same (Same.new hD)⟩ ?_ ?_
      · rintro i v H3 H' acc Fin Skip hi hla k hacc ⟨rr, hc3⟩ ⟨rfl, yy⟩ fin skip
        obtain ⟨y, hy, rfl⟩ := map_at yy
        have hym := List.mem_of_getElem? hy
        obtain ⟨hyr, hyt⟩ := mem_opn.mp hym
        have hy6 : y < 6 := Nat.lt_of_lt_of_le (ro.lt r hrm y hyr) ro.len
        have ly := clr_le hyt
        have hbt := bitsOf_len hy6 hyt
        have h13 := k _ _ (ne_of (sm12 _ _ h1) (sm12 _ _ h3) (fun z => nomatch z)) (sm12 _ _ h1)
        refine ⟨rfl, ⟨_, rfl, c, dx, _, rfl, h13, rfl, _, rfl, _, rfl, _, rfl, t, y, rfl, by omega, ly, c, da, rows, p - 2 ^ x, t - 2 ^ y, rfl, hc3, ro, Nat.lt_of_le_of_lt (Nat.sub_le _ _) hp, Nat.lt_of_le_of_lt (Nat.sub_le _ _) ht, by omega, by omega, fun H4 sx hc4 => fin _ _ sx ⟨?_, hc4⟩⟩⟩
        rw [rr, take_snoc hy, List.map_append]; rfl
      · intro H3 acc k hla hacc ⟨rr, hc3⟩
        have hkp3 : H3 kp = some (.tup ((kk p t).map kV)) := k _ _ (ne_of (sm2 _ _ hk) (sm12 _ _ h3) (fun z => nomatch z)) (sm2 _ _ hk)
        obtain ⟨dx3, ra3, kvs3, g1, g2, g3, g4, g5, g6⟩ := id hc3
        have hlen := g4.len
        rw [kSet_len] at hlen
        have hval : (((opn r t).map fun y => ((cntm rows (p - 2 ^ x) (t - 2 ^ y) : Nat) : Int)).sum) = ((cntm rows p t : Nat) : Int) := by
          rw [cntm_step hx6 hx hrow]
          generalize opn r t = l
          induction l with
          | nil => rfl
          | cons z l ih => rw [List.map_cons, List.sum_cons, ih, List.map_cons, List.sum_cons, Int.natCast_add]
        refine ⟨D, (opn r t).map fun y => ((cntm rows (p - 2 ^ x) (t - 2 ^ y) : Nat) : Int), rfl, SqL.of ?_, ?_⟩
        · rw [hacc, rr, List.length_map, List.take_length, List.map_map]; rfl
        · rw [hval]
          have hlt : kvs3.length < sizeLine := by rw [sizeLine_eq]; omega
          refine ⟨_, rfl, c, _, dx3, _, _, rfl, g1, T.c_Counter, T.n_Counter_known, rfl, _, rfl, da, _, rfl, DPut.t g3 hkp3 hlt, ?_⟩
          have n1 : c ≠ da := ne_of g1 g3 (fun z => nomatch z)
          have n2 : kp ≠ da := ne_of hkp3 g3 (fun z => nomatch z)
          refine ⟨_, rfl, c, _, dx3, _, _, rfl, by rw [upd_ne n1]; exact g1, T.c_Counter, T.n_Counter_known, rfl, _, rfl, da, iV (cntm rows p t), rfl, ?_, ?_⟩
          · have := DGet.t (H := upd H3 da (.dT (putK kvs3 (kk p t) (iV (cntm rows p t))))) (a := da) (b := kp) (k := kk p t) upd_same (by rw [upd_ne n2]; exact hkp3)
            rw [valV_put, if_pos rfl] at this
            exact this
          · refine q _ (fun b u nb e => ?_) ⟨dx3, ra3, putK kvs3 (kk p t) (iV (cntm rows p t)), ?_, ?_, upd_same, g4.put (mem_kSet hp64 ht) _, ?_, ?_⟩
            · rw [upd_ne nb]
              exact k b u nb (sm12 b u e)
            · rw [upd_ne n1]; exact g1
            · exact g2.x (b := da) (fun b u nb e => by rw [upd_ne nb]; exact e) (fun xs z => by rw [g3] at z; cases z)
            · rw [valV_put]
              split
              · rfl
              · exact g5
            · intro p' t' v e
              rw [valV_put] at e
              split at e
              · rename_i ek
                obtain ⟨rfl, rfl⟩ := kk_inj ek
                exact (Option.some.inj e).symm
              · exact g6 p' t' v e
end
theorem D_Counter_of {K : PySem.W.Frag} {mg : Str → Option Value} (T : Hd K mg) : ∀ (d : Nat) {P : Program} {w : World} {base : Heap}, Md P w K mg base CX0 (2 * d + 3) "Counter" "of" (spOf K d)
  | 0, P, w, base => by
    obtain ⟨fd, F⟩ := T.d_Counter_of
    refine D_Counter_of_step T 0 (fun _ _ _ _ => False) ?_ (fun d' e => by omega)
    intro P w base
    exact ⟨T.c_Counter, T.m_Counter_of, fd, ["self", "people", "things"], ⟨fun _ _ _ _ h => h.elim, fun _ _ _ _ _ _ _ _ _ _ _ _ _ h => h.elim⟩, FunD.bindsN F fun _ _ _ _ _ _ us hl => match us, hl with | [_, _, _], _ => rfl⟩
  | d + 1, P, w, base => D_Counter_of_step T (d + 1) (spOf K d) (D_Counter_of T d) (fun d' e => by cases e; rfl)
end Fo
end
section
set_option Elab.async false
set_option linter.all false
set_option maxRecDepth 100000
set_option maxHeartbeats 4000000
namespace Fo
open PySem PySem.Spec PyProof.Rows L2
def Tab (K : PySem.W.Frag) (H : Hp) (t : Addr) (rows : List (List Nat)) : Prop := ∃ C dx ra, (C = He.ga K "Table" ∨ C = He.ga K "RawTable") ∧ H t = some (.ins C dx [("rows", .ref ra), ("size", iV rows.length)]) ∧ Rows H ra rows
theorem Tab.kl {K : PySem.W.Frag} {H H' : Hp} {t : Addr} {rows : List (List Nat)} (h : Tab K H t rows) (k : KpL H H') : Tab K H' t rows := by
  obtain ⟨C, dx, ra, h0, h1, h2⟩ := h
  exact ⟨C, dx, ra, h0, k _ _ (fun _ z => nomatch z) h1, h2.kl k⟩
theorem Tab.same {K : PySem.W.Frag} {H H' : Hp} {t : Addr} {rows : List (List Nat)} (h : Tab K H t rows) (k : Same H H') : Tab K H' t rows := h.kl (Same.kl k)
/-- what is read off a table -/
theorem Tab.rd {K : PySem.W.Frag} {mg : Str → Option Value} {H : Hp} {t : Addr} {rows : List (List Nat)} (T : Hd K mg) (h : Tab K H t rows) : ∃ C dx ra, H t = some (.ins C dx [("rows", .ref ra), ("size", iV rows.length)]) ∧ Cls K C ∧ NoAttr K C "rows" ∧ NoAttr K C "size" ∧ Rows H ra rows := by
  obtain ⟨C, dx, ra, h0, h1, h2⟩ := h
  rcases h0 with rfl | rfl
  · exact ⟨_, dx, ra, h1, T.c_Table, T.n_Table_rows, T.n_Table_size, h2⟩
  · exact ⟨_, dx, ra, h1, T.c_RawTable, T.n_RawTable_rows, T.n_RawTable_size, h2⟩
def whole (n : Nat) : Nat := 2 ^ n - 1
theorem bitsOf_whole {n : Nat} (h : n ≤ 6) : bitsOf (whole n) = List.range n := by
  have : ∀ k : Fin 7, bitsOf (whole k.val) = List.range k.val := by decide
  exact this ⟨n, by omega⟩
theorem cntm_whole {rows : List (List Nat)} (h : rows.length ≤ 6) (t : Nat) : cntm rows (whole rows.length) t = cnt rows t := by
  unfold cntm
  rw [bitsOf_whole h, map_rowOf]
def spTotal (K : PySem.W.Frag) : Sp := fun vs H Q _ => ∃ (c da : Addr) (rows : List (List Nat)), vs = [.ref c] ∧ Ctr K H c da rows ∧ RowsOk rows ∧ ∀ H', SmX da H H' → Ctr K H' c da rows → Q (iV (cnt rows (whole rows.length))) H'
def spMany (K : PySem.W.Frag) : Sp := fun vs H Q _ => ∃ (t : Addr) (rows : List (List Nat)), vs = [.ref t] ∧ Tab K H t rows ∧ RowsOk rows ∧ ∀ H', Same H H' → Q (iV (cnt rows (whole rows.length))) H'
/-- the masks of those who wait and of the things that are left -/
def wm (st : Stg) : Nat := bsum ((List.range st.length).filter fun j => decide (st[j]? = some none))
def lm (st : Stg) : Nat := bsum ((List.range st.length).filter fun j => !decide (some j ∈ st))
def spLeft : Sp := fun vs H Q _ => ∃ (a : Addr) (st : Stg), vs = [.ref a] ∧ H a = some (.tup (st.map oV)) ∧ st.length ≤ 6 ∧ ∀ H' p, H p = none → Same H H' → H' p = some (.tup [iV (wm st), iV (lm st)]) → Q (.ref p) H'
/-- pairs of numbers in a list -/
def Prs (H : Hp) (l : Addr) (es : List (Nat × Nat)) : Prop := ∃ vs, H l = some (.lst vs) ∧ Tups H vs (es.map fun e => [iV e.1, iV e.2])
def opsm (rows : List (List Nat)) (r : List Nat) (q pm tm : Nat) : List (Nat × Nat) := ((opn r tm).map fun x => (x, cntm rows (pm - 2 ^ q) (tm - 2 ^ x))).filter fun e => decide (0 < e.2)
def spOpens (K : PySem.W.Frag) : Sp := fun vs H Q _ => ∃ (c da : Addr) (rows : List (List Nat)) (r : List Nat) (pm tm q : Nat), vs = [.ref c, iV pm, iV tm, iV q] ∧ Ctr K H c da rows ∧ RowsOk rows ∧ pm < 2 ^ rows.length ∧ tm < 64 ∧ pm.testBit q = true ∧ (bitsOf pm).length = (bitsOf tm).length ∧ rows[q]? = some r ∧
  ∀ H' l, H l = none → SmX da H H' → Ctr K H' c da rows → Prs H' l (opsm rows r q pm tm) → Q (.ref l) H'
def spAfter : Sp := fun vs H Q _ => ∃ (a : Addr) (st : Stg) (q x : Nat), vs = [.ref a, iV q, iV x] ∧ H a = some (.tup (st.map oV)) ∧ q < st.length ∧ st.length ≤ 100 ∧ ∀ H' p, Same H H' → H' p = some (.tup ((st.set q (some x)).map oV)) → Q (.ref p) H'
theorem inV_o (st : Stg) (i : Nat) : inV (V.int ((i : Nat) : Int)) (st.map oV) = decide (some i ∈ st) := by
  unfold inV
  induction st with
  | nil => rfl
  | cons o st ih =>
    rw [List.map_cons, List.any_cons, ih]
    cases o with
    | none => simp [oV, eqV]
    | some x =>
      by_cases e : x = i
      · subst e; simp [oV, eqV]
      · have : ¬ i = x := fun z => e z.symm
        simp [oV, eqV, e, this]
        intro z
        omega
theorem map_set_oV (st : Stg) (q x : Nat) : (st.set q (some x)).map oV = (st.map oV).set q (iV x) := by rw [List.map_set]; rfl
theorem set_split {α : Type} {l : List α} {q : Nat} (h : q < l.length) (x : α) : l.set q x = l.take q ++ x :: l.drop (q + 1) := List.set_eq_take_append_cons_drop .. |>.trans (if_pos h)
theorem D_Counter_of6 {K : PySem.W.Frag} {mg : Str → Option Value} (T : Hd K mg) {P : Program} {w : World} {base : Heap} : Md P w K mg base CX0 15 "Counter" "of" (spOf K 6) := D_Counter_of T 6
section
variable {P : Program} {w : World} {K : PySem.W.Frag} {mg : Str → Option Value} {base : Heap}
theorem D_Counter_total (T : Hd K mg) : Md P w K mg base CX0 16 "Counter" "total" (spTotal K) := by
  have oo := fun {P w base} => D_Counter_of6 (P := P) (w := w) (base := base) T
  obtain ⟨fd, F⟩ := T.d_Counter_total
  refine ⟨T.c_Counter, T.m_Counter_total, fd, ["self"], ?_, FunD.bindsN F fun _ _ _ _ _ _ us hl => match us, hl with | [_], _ => rfl⟩
  refine F.ok sc_Counter_total (fun vs H Q E h => ?_) (fun cdv A outer s H vs Q E hr h => ⟨_, PSs.nox (pss_one (ps_ret (pe_mdK oo (hr.mono (by first | decide | omega)) pass0 (pv 0) (pa_cons (pe_fld (pv 0) rfl) (pa_cons (pe_fld (pv 0) rfl) pa_nil))))), ?_⟩)
  · obtain ⟨_, _, _, rfl, _⟩ := h; rfl
  · obtain ⟨c, da, rows, rfl, hc, ro, q⟩ := h
    obtain ⟨dx, ra, kvs, h1, h2, h3, h4⟩ := id hc
    have e : (bitsOf (whole rows.length)).length = rows.length := by rw [bitsOf_whole ro.len, List.length_range]
    have l6 := ro.len
    have l64 := pow_le6 ro.len
    have pz := Nat.two_pow_pos rows.length
    have lw : whole rows.length < 2 ^ rows.length := by unfold whole; omega
    refine ⟨_, rfl, c, dx, _, rfl, h1, rfl, _, rfl, c, _, dx, _, _, rfl, h1, T.c_Counter, T.n_Counter_whole, rfl, _, rfl, c, _, dx, _, _, rfl, h1, T.c_Counter, T.n_Counter_whole, rfl, c, da, rows, whole rows.length, whole rows.length, rfl, hc, ro, lw, by omega, by omega, rfl, fun H' sx hc' => ?_⟩
    rw [cntm_whole ro.len]
    exact q H' sx hc'
theorem D_many_dealings (T : Hd K mg) : Fn P w K mg base CX0 17 "many_dealings" (spMany K) := by
  have D_Counter_init := fun {P w base} => D_Counter_init (P := P) (w := w) (base := base) T
  have D_Counter_total := fun {P w base} => D_Counter_total (P := P) (w := w) (base := base) T
  obtain ⟨fd, F⟩ := T.d_many_dealings
  refine ⟨T.g_many_dealings, T.p_many_dealings, fd, ["table"], ?_, FunD.bindsN F fun _ _ _ _ _ _ us hl => match us, hl with | [_], _ => rfl⟩
  refine F.ok sc_many_dealings (fun vs H Q E h => ?_) (fun cdv A outer s H vs Q E hr h => ⟨_, PSs.nox (pss_one (ps_ret (pe_md0 D_Counter_total (hr.mono (by first | decide | omega)) pass0 (pe_mkc D_Counter_init (hr.mono (by first | decide | omega)) rfl pass0 (pa_cons (pe_fld (pv 0) rfl) pa_nil))))), ?_⟩)
  · obtain ⟨_, _, rfl, _⟩ := h; rfl
  · obtain ⟨t, rows, rfl, ht, ro, q⟩ := h
    obtain ⟨C, dx, ra, h1, hC, nr, ns, hrw⟩ := ht.rd T
    refine ⟨_, rfl, t, C, dx, _, _, rfl, h1, hC, nr, rfl, fun c dx' hc hdx hne => ?_⟩
    refine ⟨c, dx', ra, rows, rfl, upd_same, hrw.same (fun b u e => ?_), ro.len, fun H' da hda sx hctr => ⟨rfl, ?_⟩⟩
    · rw [upd_ne (ne_of_none e hc), upd_ne (ne_of_none e hdx)]; exact e
    · have sm := made_same hc hdx sx
      obtain ⟨dx2, ra2, kvs2, g1, g2⟩ := id hctr
      refine ⟨c, dx2, _, rfl, g1, rfl, c, da, rows, rfl, hctr, ro, fun H2 sx2 _ => ?_⟩
      have hd0 : H da = none := by
        rcases hq : H da with _ | u
        · rfl
        · rw [upd_ne (ne_of_none hq hc), upd_ne (ne_of_none hq hdx), hq] at hda; cases hda
      exact q H2 (fun b u e => sx2 b u (ne_of_none e hd0) (sm b u e))
theorem D_left_of (T : Hd K mg) : Fn P w K mg base CX0 3 "left_of" spLeft := by
  have D_bits := fun {P w base} => D_bits (P := P) (w := w) (base := base) T
  obtain ⟨fd, F⟩ := T.d_left_of
  refine ⟨T.g_left_of, T.p_left_of, fd, ["standing"], ?_, FunD.bindsN F fun _ _ _ _ _ _ us hl => match us, hl with | [_], _ => rfl⟩
  refine F.ok sc_left_of (fun vs H Q E h => ?_) (fun cdv A outer s H vs Q E hr h => ⟨_, PSs.nox (pss_cons (ps_setLc (i := 1) (own := [("person", 3), ("got", 4)]) rfl sc_left_of.nd rfl rfl (sw_true rfl rfl rfl (by decide +kernel)) (pi_enumT rfl T.f_enumerate (pa_cons (pv 0) pa_nil)) (blkOk_by (own := [("person", 3), ("got", 4)]) (N := n_left_of) (sc := defScope s_left_of) (by decide +kernel)) (fun _ _ _ _ _ => (pg_tupK (K := K) (n := 2) rfl (pgs_cons (pg_name (i := 3) sc_left_of.nd rfl (.inl rfl)) (pgs_cons (pg_name (i := 4) sc_left_of.nd rfl (.inl rfl)) pgs_nil)))) (fun _ _ _ _ _ => (pts_one (pt_cmpR op_isN (pv 4) pe_non (nomark _)))) (fun _ _ _ _ _ => (pv 3)))
      (pss_cons (ps_setLc (i := 2) (own := [("thing", 5)]) rfl sc_left_of.nd rfl rfl (sw_true rfl rfl rfl (by decide +kernel)) (pi_range1 rfl T.f_range (pa_cons (pe_callB (call_len) rfl T.f_len bt_len (pa_cons (pv 0) pa_nil)) pa_nil)) (blkOk_by (own := [("thing", 5)]) (N := n_left_of) (sc := defScope s_left_of) (by decide +kernel)) (fun _ _ _ _ _ => (pg_name (i := 5) sc_left_of.nd rfl (.inl rfl))) (fun _ _ _ _ _ => (pts_one (pt_cmpR (op_notIn_seqK (K := K)) (pv 5) (pv 0) (by rfl)))) (fun _ _ _ _ _ => (pv 5)))
      (pss_one (ps_ret (pe_tup (pa_cons (pe_fn D_bits (hr.mono (by first | decide | omega)) rfl pass0 (pa_cons (pv 1) pa_nil)) (pa_cons (pe_fn D_bits (hr.mono (by first | decide | omega)) rfl pass0 (pa_cons (pv 2) pa_nil)) pa_nil))))))), ?_⟩)
  · obtain ⟨_, _, rfl, _⟩ := h; rfl
  · obtain ⟨a, st, rfl, ha, hl, q⟩ := h
    have hz : st.length < sizeLine := small1000 (by omega)
    refine ⟨_, rfl, a, _, rfl, SqT.of ha, fun D hD => ?_⟩
    refine lc_same walk_enumT hD (fun i acc _ => acc = ((List.range i).filter fun j => decide (st[j]? = some none)).map iV) (by rw [List.length_map]; exact hz) (fun H' k => SqT.of (k _ _ ha)) (fun _ _ _ _ _ _ _ h => h) rfl ?_ ?_
    · rintro i v H1 H' acc Fin Skip hi hla k rr ⟨Tp, x, y, rfl, hT, rfl, hx, hy⟩ fin skip
      cases hx
      obtain ⟨o, ho, rfl⟩ := map_at hy
      refine ⟨Tp, _, rfl, SqT.of upd_same, rfl, _, _, rfl, _, _, rfl, rfl, rfl, _, rfl, rfl, decide (o = none), ?_, ?_⟩
      · cases o <;> rfl
      · have er : (List.range (i + 1)).filter (fun j => decide (st[j]? = some none)) = (List.range i).filter (fun j => decide (st[j]? = some none)) ++ (if decide (o = none) = true then [i] else []) := by
          rw [List.range_succ, List.filter_append]
          congr 1
          cases o <;> simp [ho]
        cases ob : decide (o = none) with
        | true =>
          refine iteT ⟨_, rfl, fin _ _ (Same.new hT) ?_⟩
          rw [rr, er, ob, List.map_append]; rfl
        | false =>
          refine iteF (skip _ (Same.new hT) ?_)
          rw [rr, er, ob, if_neg (by decide), List.append_nil]
    · intro H1 l1 sm1 hla1 hl1 rr1
      have ha1 := sm1 _ _ ha
      rw [List.length_map] at rr1
      refine ⟨_, rfl, _, _, rfl, .inr ⟨_, SqT.of ha1, rfl⟩, _, rfl, by rw [List.length_map]; omega, by rw [List.length_map]; omega, fun D2 hD2 => ?_⟩
      refine lc_same (walk_rangeN (n := (st.map oV).length)) hD2 (fun i acc _ => acc = ((List.range i).filter fun j => !decide (some j ∈ st)).map iV) (by rw [List.length_map]; exact hz) (fun _ _ => True.intro) (fun _ _ _ _ _ _ _ h => h) rfl ?_ ?_
      · rintro i v H2 H' acc Fin Skip hi hla k rr ⟨rfl, rfl⟩ fin skip
        have hin := inV_o st i
        have hfl : (st.map oV).all flatV = true := by
          rw [List.all_eq_true]
          intro x hx
          obtain ⟨o, _, rfl⟩ := List.mem_map.mp hx
          cases o <;> rfl
        refine ⟨rfl, _, rfl, _, rfl, a, _, rfl, .inr (SqT.of (k _ _ ha1)), rfl, hfl, _, rfl, ?_⟩
        rw [if_pos rfl, hin]
        have er : (List.range (i + 1)).filter (fun j => !decide (some j ∈ st)) = (List.range i).filter (fun j => !decide (some j ∈ st)) ++ (if (!decide (some i ∈ st)) = true then [i] else []) := by
          rw [List.range_succ, List.filter_append]
          congr 1
          cases e : decide (some i ∈ st) <;> simp [e]
        cases ob : (!decide (some i ∈ st)) with
        | true =>
          refine iteT ⟨_, rfl, fin _ _ (Same.refl _) ?_⟩
          rw [rr, er, ob, List.map_append]; rfl
        | false =>
          refine iteF (skip _ (Same.refl _) ?_)
          rw [rr, er, ob, if_neg (by decide), List.append_nil]
      · intro H2 l2 sm2 hla2 hl2 rr2
        rw [List.length_map] at rr2
        have small : ∀ (p : Nat → Bool), (∀ n ∈ (List.range st.length).filter p, n < 64) ∧ ((List.range st.length).filter p).length ≤ 64 := fun p =>
          ⟨fun n hn => by have := List.mem_range.mp (List.mem_filter.mp hn).1; omega, by have := List.length_filter_le p (List.range st.length); rw [List.length_range] at this; omega⟩
        refine ⟨_, rfl, D, _, rfl, by rw [sm2 _ _ hl1, rr1], (small _).1, (small _).2, fun H3 s3 => ?_⟩
        refine ⟨_, rfl, D2, _, rfl, by rw [s3 _ _ hl2, rr2], (small _).1, (small _).2, fun H4 s4 => ?_⟩
        refine ⟨sz2, fun p hp => ?_⟩
        have s04 : Same H H4 := Same.trans sm1 (Same.trans sm2 (Same.trans s3 s4))
        have hp0 : H p = none := by
          rcases hq : H p with _ | u
          · rfl
          · rw [s04 _ _ hq] at hp; cases hp
        exact q _ p hp0 (Same.trans s04 (Same.new hp)) upd_same
theorem D_opens (T : Hd K mg) : Fn P w K mg base CX0 16 "opens" (spOpens K) := by
  have D_without := fun {P w base} => D_without (P := P) (w := w) (base := base) T
  have D_Counter_among := fun {P w base} => D_Counter_among (P := P) (w := w) (base := base) T
  have oo := fun {P w base} => D_Counter_of6 (P := P) (w := w) (base := base) T
  obtain ⟨fd, F⟩ := T.d_opens
  refine ⟨T.g_opens, T.p_opens, fd, ["counter", "people", "things", "person"], ?_, FunD.bindsN F fun _ _ _ _ _ _ us hl => match us, hl with | [_, _, _, _], _ => rfl⟩
  refine F.ok sc_opens (fun vs H Q E h => ?_) (fun cdv A outer s H vs Q E hr h => ⟨_, PSs.nox (pss_cons (ps_set (i := 4) sc_opens.nd rfl (.inr rfl) (pe_fn D_without (hr.mono (by first | decide | omega)) rfl pass0 (pa_cons (pv 1) (pa_cons (pv 3) pa_nil))))
      (pss_cons (ps_setLc (i := 5) (own := [("thing", 6)]) rfl sc_opens.nd rfl rfl (sw_true rfl rfl rfl (by decide +kernel)) (pi_list (pe_md D_Counter_among (hr.mono (by first | decide | omega)) pass0 (pv 0) (pa_cons (pv 3) (pa_cons (pv 2) pa_nil)))) (blkOk_by (own := [("thing", 6)]) (N := n_opens) (sc := defScope s_opens) (by decide +kernel)) (fun _ _ _ _ _ => (pg_name (i := 6) sc_opens.nd rfl (.inl rfl))) (fun _ _ _ _ _ => pts_nil) (fun _ _ _ _ _ => (pe_tup (pa_cons (pv 6) (pa_cons (pe_mdK oo (hr.mono (by first | decide | omega)) pass0 (pv 0) (pa_cons (pv 4) (pa_cons (pe_fn D_without (hr.mono (by first | decide | omega)) rfl pass0 (pa_cons (pv 2) (pa_cons (pv 6) pa_nil))) pa_nil))) pa_nil)))))
      (pss_one (ps_ret (pe_lc (own := [("thing", 6), ("many", 7)]) rfl sc_opens.nd (pi_list (pv 5)) (blkOk_by (own := [("thing", 6), ("many", 7)]) (N := n_opens) (sc := defScope s_opens) (by decide +kernel)) (fun _ _ _ _ _ => (pg_tupK (K := K) (n := 2) rfl (pgs_cons (pg_name (i := 6) sc_opens.nd rfl (.inl rfl)) (pgs_cons (pg_name (i := 7) sc_opens.nd rfl (.inl rfl)) pgs_nil)))) (fun _ _ _ _ _ => (pts_one (pt_cmpR op_gt (pv 7) pe_int (nomark _)))) (fun _ _ _ _ _ => (pe_tup (pa_cons (pv 6) (pa_cons (pv 7) pa_nil))))))))), ?_⟩)
  · obtain ⟨_, _, _, _, _, _, _, rfl, _⟩ := h; rfl
  · obtain ⟨c, da, rows, r, pm, tm, q, rfl, hc, ro, hp, ht, hq, hpt, hrow, qq⟩ := h
    obtain ⟨dx, ra, kvs, h1, h2, h3, h4⟩ := id hc
    have hrm := List.mem_of_getElem? hrow
    have hp64 := Nat.lt_of_lt_of_le hp (pow_le6 ro.len)
    have lx := clr_le hq
    have hq6 : q < 6 := by
      rcases Nat.lt_or_ge q 6 with z | z
      · exact z
      · have := Nat.testBit_lt_two_pow (x := pm) (i := q) (Nat.lt_of_lt_of_le hp64 (Nat.pow_le_pow_right (n := 2) (by omega) z))
        rw [this] at hq; cases hq
    have hbl := bitsOf_len hq6 hq
    have hrl : r.length ≤ 6 := by
      have := nodup_len (ro.nd r hrm) (k := List.range rows.length) (fun y hy => List.mem_range.mpr (ro.lt r hrm y hy))
      rw [List.length_range] at this
      have := ro.len
      omega
    refine ⟨_, rfl, _, rfl, pm, q, rfl, by omega, lx, ?_⟩
    refine ⟨_, rfl, c, dx, _, rfl, h1, rfl, _, rfl, _, rfl, c, da, rows, q, tm, r, rfl, hc, hrow, by omega, fun H1 l hl0 sm1 hl => ⟨l, rfl, ⟨_, SqL.of hl⟩, fun D hD => ?_⟩⟩
    have hc1 := hc.same sm1
    have hor : (opn r tm).length ≤ r.length := List.length_filter_le _ _
    refine lc_S walk_list hD (fun b => b = da) (fun i acc H => Tups H acc (((opn r tm).take i).map fun y => [iV y, iV (cntm rows (pm - 2 ^ q) (tm - 2 ^ y))]) ∧ Ctr K H c da rows) (ne_of_none (sm1 _ _ h3) hD).symm (by
        rw [List.length_map]
        exact small1000 (by omega)) (fun i acc H k _ => SqL.of (k _ _ (ne_of hl (sm1 _ _ h3) (fun z => nomatch z)) hl)) (fun i acc H H' ys hd k r => ⟨r.1.kl (SmX.kl k hd), r.2.kl (SmX.kl k hd)⟩) ⟨.nil, hc1.same (Same.new hD)⟩ ?_ ?_
    · rintro i v H3 H' acc Fin Skip hi hla k hacc ⟨rr, hc3⟩ ⟨rfl, yy⟩ fin skip
      obtain ⟨y, hy, rfl⟩ := map_at yy
      obtain ⟨hyr, hyt⟩ := mem_opn.mp (List.mem_of_getElem? hy)
      have hy6 : y < 6 := Nat.lt_of_lt_of_le (ro.lt r hrm y hyr) ro.len
      have ly := clr_le hyt
      have hbt := bitsOf_len hy6 hyt
      have h13 := k _ _ (ne_of (sm1 _ _ h1) (sm1 _ _ h3) (fun z => nomatch z)) (sm1 _ _ h1)
      obtain ⟨dx3, ra3, kvs3, g1, g2, g3, g4⟩ := id hc3
      refine ⟨rfl, _, rfl, _, rfl, c, dx, _, rfl, h13, rfl, _, rfl, _, rfl, _, rfl, tm, y, rfl, by omega, ly, c, da, rows, pm - 2 ^ q, tm - 2 ^ y, rfl, hc3, ro, Nat.lt_of_le_of_lt (Nat.sub_le _ _) hp, Nat.lt_of_le_of_lt (Nat.sub_le _ _) ht, ?_, by omega, fun H4 sx hc4 => ⟨sz2, fun tp htp => ?_⟩⟩
      · have : (bitsOf pm).length ≤ 6 := by
          have := List.length_filter_le (fun i => pm.testBit i) (List.range 6)
          rw [List.length_range] at this; exact this
        omega
      · refine fin _ _ (fun b u nb e => ?_) ⟨?_, hc4.same (Same.new htp)⟩
        · have := sx b u nb e
          rw [upd_ne (ne_of_none this htp)]; exact this
        · rw [take_snoc hy, List.map_append]
          refine Tups.snoc ((rr.x sx (fun xs z => by rw [g3] at z; cases z)).same (Same.new htp)) upd_same
    · intro H3 acc k hla hacc ⟨rr, hc3⟩
      rw [List.length_map, List.take_length] at rr
      obtain ⟨dx3, ra3, kvs3, g1, g2, g3, g4⟩ := id hc3
      have hlen := Paired.length rr
      rw [List.length_map] at hlen
      refine ⟨_, rfl, D, rfl, ⟨_, SqL.of hacc⟩, fun D2 hD2 => ?_⟩
      have rr0 := rr
      refine lc_same walk_list hD2 (fun i acc2 H => Tups H acc2 ((((opn r tm).take i).map fun y => (y, cntm rows (pm - 2 ^ q) (tm - 2 ^ y))).filter (fun e => decide (0 < e.2)) |>.map fun e => [iV e.1, iV e.2])) (small1000 (by omega)) (fun H' k2 => SqL.of (k2 _ _ hacc)) (fun i acc2 H H' ys hd k r => r.kl (SmX.kl k hd)) .nil ?_ ?_
      · rintro i v H4 H' acc2 Fin Skip hi hla2 k2 rr2 ⟨rfl, yy⟩ fin skip
        obtain ⟨t2, ht2, p, rfl, hp2⟩ := paired_get rr0 yy
        obtain ⟨y, hy, rfl⟩ := map_at ht2
        have hp4 := k2 _ _ hp2
        refine ⟨p, _, rfl, SqT.of hp4, rfl, _, _, rfl, _, _, rfl, rfl, rfl, _, rfl, _, _, rfl, rfl, _, rfl, ?_⟩
        have er : (((opn r tm).take (i + 1)).map fun y => (y, cntm rows (pm - 2 ^ q) (tm - 2 ^ y))).filter (fun e => decide (0 < e.2)) = (((opn r tm).take i).map fun y => (y, cntm rows (pm - 2 ^ q) (tm - 2 ^ y))).filter (fun e => decide (0 < e.2)) ++ (if decide (0 < cntm rows (pm - 2 ^ q) (tm - 2 ^ y)) = true then [(y, cntm rows (pm - 2 ^ q) (tm - 2 ^ y))] else []) := by
          rw [take_snoc hy, List.map_append, List.filter_append]
          congr 1
          cases e : decide (0 < cntm rows (pm - 2 ^ q) (tm - 2 ^ y)) <;> simp_all
        have ed : decide ((0 : Int) < ((cntm rows (pm - 2 ^ q) (tm - 2 ^ y) : Nat) : Int)) = decide (0 < cntm rows (pm - 2 ^ q) (tm - 2 ^ y)) := decide_eq_decide.mpr ⟨fun h => by omega, fun h => by omega⟩
        cases ob : decide (0 < cntm rows (pm - 2 ^ q) (tm - 2 ^ y)) with
        | true =>
          rw [ob] at er ed
          rw [ed]
          refine iteT ⟨_, rfl, _, rfl, sz2, fun tp htp => fin _ _ (Same.new htp) ?_⟩
          rw [er, List.map_append]
          exact Tups.snoc (rr2.same (Same.new htp)) upd_same
        | false =>
          rw [ob] at er ed
          rw [ed]
          refine iteF (skip _ (Same.refl _) ?_)
          rw [er, if_neg (by decide), List.append_nil]
          exact rr2
      · intro H4 acc2 k2 hla2 hacc2 rr2
        rw [hlen, List.take_length] at rr2
        have hD0 : H D2 = none := by
          rcases hz : H D2 with _ | u
          · rfl
          · by_cases e : D2 = da
            · rw [e, g3] at hD2; cases hD2
            · rw [k _ _ e (sm1 _ _ hz)] at hD2; cases hD2
        exact qq H4 D2 hD0 (fun b u nb e => k2 _ _ (k _ _ nb (sm1 _ _ e))) (hc3.same k2) ⟨acc2, hacc2, rr2⟩
theorem D_after_draw (T : Hd K mg) : Fn P w K mg base CX0 1 "after_draw" spAfter := by
  obtain ⟨fd, F⟩ := T.d_after_draw
  refine ⟨T.g_after_draw, T.p_after_draw, fd, ["standing", "person", "thing"], ?_, FunD.bindsN F fun _ _ _ _ _ _ us hl => match us, hl with | [_, _, _], _ => rfl⟩
  refine F.ok sc_after_draw (fun vs H Q E h => ?_) (fun cdv A outer s H vs Q E hr h => ⟨_, PSs.nox (pss_one (ps_ret (pe_op op_catA (pe_op op_catA (pe_slice sl_tupA (pv 0) po_none (po_some (pv 1))) (pe_tup (pa_cons (pv 2) pa_nil))) (pe_slice sl_tupA (pv 0) (po_some (pe_op op_add (pv 1) pe_int)) po_none)))), ?_⟩)
  · obtain ⟨_, _, _, _, rfl, _⟩ := h; rfl
  · obtain ⟨a, st, q, x, rfl, ha, hq, h100, qq⟩ := h
    have hm : (st.map oV).length = st.length := List.length_map _
    refine ⟨_, rfl, _, rfl, _, rfl, slA_to ha (by omega) fun H1 p1 s1 hp1 => ⟨_, rfl, sz1, fun p2 hp2 => ?_⟩⟩
    refine catA_to (by rw [upd_ne (ne_of_none hp1 hp2)]; exact hp1) upd_same (by rw [List.length_take]; show _ + 1 ≤ _; omega) fun H2 p3 s2 hp3 => ?_
    have s02 : Same H H2 := Same.trans s1 (Same.trans (Same.new hp2) s2)
    refine ⟨_, rfl, _, rfl, _, _, rfl, rfl, _, rfl, ?_⟩
    have fin : ∀ H3 p4, Same H2 H3 → H3 p4 = some (.tup ((st.map oV).drop (q + 1))) → rCatA K (.ref p3) (.ref p4) H3 Q := fun H3 p4 s3 hp4 => by
      refine catA_to (s3 _ _ hp3) hp4 (by rw [List.length_append, List.length_take, List.length_drop]; show _ + 1 + _ ≤ _; omega) fun H4 p5 s4 hp5 => ?_
      refine qq H4 p5 (Same.trans s02 (Same.trans s3 s4)) ?_
      rw [hp5, map_set_oV, set_split (l := st.map oV) (q := q) (by omega), List.append_assoc]
      rfl
    exact slA_from (k := q + 1) (Q := fun y H3 => rCatA K (.ref p3) y H3 Q) (s02 _ _ ha) fin
end
end Fo
end
section
set_option Elab.async false
set_option linter.all false
set_option maxRecDepth 100000
set_option maxHeartbeats 4000000
namespace Fo
open PySem PySem.Spec PyProof.Rows L2
def spGcd : Sp := fun vs H Q _ => ∃ a b : Nat, vs = [iV a, iV b] ∧ Q (iV (Nat.gcd a b)) H
/-- a fraction -/
def Fr (H : Hp) (v : V) (a b : Nat) : Prop := ∃ p, v = .ref p ∧ H p = some (.tup [iV a, iV b])
theorem Fr.same {H H' : Hp} {v : V} {a b : Nat} (h : Fr H v a b) (k : Same H H') : Fr H' v a b := let ⟨p, e, q⟩ := h; ⟨p, e, k _ _ q⟩
def redT (a b : Nat) : Nat := a / Nat.gcd a b
def redB (a b : Nat) : Nat := b / Nat.gcd a b
def spMade : Sp := fun vs H Q _ => ∃ a b : Nat, vs = [iV a, iV b] ∧ 0 < b ∧ b < 1073741824 ∧ ∀ H' p, H p = none → Same H H' → H' p = some (.tup [iV (redT a b), iV (redB a b)]) → Q (.ref p) H'
def spTimes : Sp := fun vs H Q _ => ∃ v w, ∃ a b c d : Nat, vs = [v, w] ∧ Fr H v a b ∧ Fr H w c d ∧ a ≤ 4294967296 ∧ b ≤ 4294967296 ∧ 0 < b * d ∧ b * d < 1073741824 ∧ ∀ H' p, H p = none → Same H H' → H' p = some (.tup [iV (redT (a * c) (b * d)), iV (redB (a * c) (b * d))]) → Q (.ref p) H'
def spPlus : Sp := fun vs H Q _ => ∃ v w, ∃ a b c d : Nat, vs = [v, w] ∧ Fr H v a b ∧ Fr H w c d ∧ a ≤ 4294967296 ∧ b ≤ 4294967296 ∧ c ≤ 4294967296 ∧ 0 < b * d ∧ b * d < 1073741824 ∧
  ∀ H' p, H p = none → Same H H' → H' p = some (.tup [iV (redT (a * d + c * b) (b * d)), iV (redB (a * d + c * b) (b * d))]) → Q (.ref p) H'
def spNothing (K : PySem.W.Frag) : Sp := fun vs H Q _ => ∃ (t : Addr) (rows : List (List Nat)), vs = [.ref t] ∧ Tab K H t rows ∧ 0 < rows.length ∧ rows.length ≤ 1000 ∧ ∀ H' p, Same H H' → H' p = some (.tup ((List.replicate rows.length none : Stg).map oV)) → Q (.ref p) H'
theorem gcd_loop {tb : TS} {D : Ends} {x y : Nat} {H : Hp} (ht : ∀ (D : Ends) (a b : Nat), b ≠ 0 → D.nx [some (iV b), some (iV (a % b))] H → tb D [some (iV a), some (iV b)] H)
    (h : D.nx [some (iV (Nat.gcd x y)), some (.int 0)] H) : tWhile (tTest (tOp rNe (tVar 1) (tC (.int 0)))) tb D [some (iV x), some (iV y)] H := by
  refine while_by (fun σ H' => H' = H ∧ ∃ a b : Nat, σ = [some (iV a), some (iV b)] ∧ Nat.gcd a b = Nat.gcd x y) (fun σ _ => match σ with
    | [_, some (.int b)] => b.toNat
    | _ => 0) ⟨rfl, x, y, rfl, rfl⟩ ?_ ?_
  · rintro σ _ ⟨rfl, a, b, rfl, e⟩
    by_cases hb : b = 0
    · subst hb
      refine ⟨_, rfl, rfl, false, rfl, iteF ?_⟩
      have : a = Nat.gcd x y := by rw [← e, Nat.gcd_zero_right]
      rw [this]; exact h
    · refine ⟨_, rfl, rfl, true, congrArg V.bl ?_, iteT (ht _ a b hb ⟨⟨rfl, b, a % b, rfl, ?_⟩, ?_⟩)⟩
      · rw [decide_eq_false]; rfl
        intro z; injection z with z; omega
      · rw [← e, Nat.gcd_comm b, ← Nat.gcd_rec, Nat.gcd_comm]
      · show (((a % b : Nat) : Int)).toNat < (((b : Nat) : Int)).toNat
        have := Nat.mod_lt a (Nat.pos_of_ne_zero hb)
        omega
  · rintro σ H' Q Q' hq ⟨x', e1, h1, k, e2, q⟩
    exact ⟨x', e1, h1, k, e2, hq _ _ q⟩
section
variable {P : Program} {w : World} {K : PySem.W.Frag} {mg : Str → Option Value} {base : Heap}
theorem D_common_divisor (T : Hd K mg) : Fn P w K mg base CX0 1 "common_divisor" spGcd := by
  obtain ⟨fd, F⟩ := T.d_common_divisor
  refine ⟨T.g_common_divisor, T.p_common_divisor, fd, ["one", "other"], ?_, FunD.bindsN F fun _ _ _ _ _ _ us hl => match us, hl with | [_, _], _ => rfl⟩
  refine F.ok sc_common_divisor (fun vs H Q E h => ?_) (fun cdv A outer s H vs Q E hr h => ⟨_, PSs.nox (pss_cons (ps_while PassesOwn.never (pt_cmpR op_ne (pv 1) pe_int (nomark _))
        (pss_one (ps_par (i := 0) (j := 1) rfl sc_common_divisor.nd rfl rfl (by decide) rfl rfl (pa_cons (pv 1) (pa_cons (pe_op op_mod (pv 0) (pv 1)) pa_nil)) (by rfl))))
      (pss_one (ps_ret (pv 0)))), ?_⟩)
  · obtain ⟨_, _, rfl, _⟩ := h; rfl
  · obtain ⟨a, b, rfl, q⟩ := h
    exact gcd_loop (fun D a b hb n => ⟨_, rfl, _, rfl, _, rfl, _, _, rfl, rfl, (by omega : (0 : Int) < ((b : Nat) : Int)), _, _, rfl, n⟩) ⟨_, rfl, q⟩
theorem D_law_divisor (T : Hd K mg) : Fn P w K mg base CX0 1 "_law_divisor" spGcd := by
  obtain ⟨fd, F⟩ := T.d_law_divisor
  refine ⟨T.g_law_divisor, T.p_law_divisor, fd, ["_law_one", "_law_other"], ?_, FunD.bindsN F fun _ _ _ _ _ _ us hl => match us, hl with | [_, _], _ => rfl⟩
  refine F.ok sc_law_divisor (fun vs H Q E h => ?_) (fun cdv A outer s H vs Q E hr h => ⟨_, PSs.nox (pss_cons (ps_while PassesOwn.never (pt_cmpR op_ne (pv 1) pe_int (nomark _))
        (pss_one (ps_par (i := 0) (j := 1) rfl sc_law_divisor.nd rfl rfl (by decide) rfl rfl (pa_cons (pv 1) (pa_cons (pe_op op_mod (pe_callTy call_int1 rfl T.f_int bt_int (pa_cons (pv 0) pa_nil)) (pv 1)) pa_nil)) (by rfl))))
      (pss_one (ps_ret (pv 0)))), ?_⟩)
  · obtain ⟨_, _, rfl, _⟩ := h; rfl
  · obtain ⟨a, b, rfl, q⟩ := h
    exact gcd_loop (fun D a b hb n => ⟨_, rfl, _, rfl, .inl ⟨_, rfl, _, rfl, _, _, rfl, rfl, (by omega : (0 : Int) < ((b : Nat) : Int)), _, _, rfl, n⟩⟩) ⟨_, rfl, q⟩
theorem D_made (T : Hd K mg) : Fn P w K mg base CX0 2 "made" spMade := by
  have D_common_divisor := fun {P w base} => D_common_divisor (P := P) (w := w) (base := base) T
  obtain ⟨fd, F⟩ := T.d_made
  refine ⟨T.g_made, T.p_made, fd, ["top", "bottom"], ?_, FunD.bindsN F fun _ _ _ _ _ _ us hl => match us, hl with | [_, _], _ => rfl⟩
  refine F.ok sc_made (fun vs H Q E h => ?_) (fun cdv A outer s H vs Q E hr h => ⟨_, PSs.nox (pss_cons (ps_set (i := 2) sc_made.nd rfl (.inl rfl) (pe_fn D_common_divisor (hr.mono (by first | decide | omega)) rfl pass0 (pa_cons (pe_callB call_abs rfl T.f_abs bt_abs (pa_cons (pv 0) pa_nil)) (pa_cons (pv 1) pa_nil))))
      (pss_one (ps_ret (pe_tup (pa_cons (pe_op op_fdivNN (pv 0) (pv 2)) (pa_cons (pe_op op_fdivNN (pv 1) (pv 2)) pa_nil)))))), ?_⟩)
  · obtain ⟨_, _, rfl, _⟩ := h; rfl
  · obtain ⟨a, b, rfl, h0, h1, q⟩ := h
    have hg : 0 < Nat.gcd a b := Nat.gcd_pos_of_pos_right _ h0
    have hl : Nat.gcd a b ≤ b := Nat.le_of_dvd h0 (Nat.gcd_dvd_right a b)
    have ha : V.int (if ((a : Nat) : Int) < 0 then -((a : Nat) : Int) else ((a : Nat) : Int)) = iV a := by rw [if_neg (by omega)]
    refine ⟨_, rfl, _, rfl, ?_⟩
    rw [ha]
    refine ⟨_, rfl, a, b, rfl, ?_⟩
    refine ⟨_, rfl, _, rfl, a, Nat.gcd a b, rfl, rfl, ⟨hg, by omega⟩, _, rfl, _, rfl, b, Nat.gcd a b, rfl, rfl, ⟨hg, by omega⟩, sz2, fun p hp => ?_⟩
    exact q _ p hp (Same.new hp) upd_same
theorem D_times (T : Hd K mg) : Fn P w K mg base CX0 3 "times" spTimes := by
  have D_made := fun {P w base} => D_made (P := P) (w := w) (base := base) T
  obtain ⟨fd, F⟩ := T.d_times
  refine ⟨T.g_times, T.p_times, fd, ["one", "other"], ?_, FunD.bindsN F fun _ _ _ _ _ _ us hl => match us, hl with | [_, _], _ => rfl⟩
  refine F.ok sc_times (fun vs H Q E h => ?_) (fun cdv A outer s H vs Q E hr h => ⟨_, PSs.nox (pss_one (ps_ret (pe_fn D_made (hr.mono (by first | decide | omega)) rfl pass0 (pa_cons (pe_op op_mulN (pe_ix ix_tup (pv 0) pe_int (fun _ _ => rfl)) (pe_ix ix_tup (pv 1) pe_int (fun _ _ => rfl))) (pa_cons (pe_op op_mulN (pe_ix ix_tup (pv 0) pe_int (fun _ _ => rfl)) (pe_ix ix_tup (pv 1) pe_int (fun _ _ => rfl))) pa_nil))))), ?_⟩)
  · obtain ⟨_, _, _, _, _, _, rfl, _⟩ := h; rfl
  · obtain ⟨_, _, a, b, c, d, rfl, ⟨v, rfl, hv⟩, ⟨w', rfl, hw⟩, l1, l2, l3, l4, q⟩ := h
    refine ⟨_, rfl, v, _, _, _, rfl, rfl, SqT.of hv, rfl, _, rfl, w', _, _, _, rfl, rfl, SqT.of hw, rfl, a, c, rfl, rfl, l1, ?_⟩
    refine ⟨_, rfl, v, _, _, _, rfl, rfl, SqT.of hv, rfl, _, rfl, w', _, _, _, rfl, rfl, SqT.of hw, rfl, b, d, rfl, rfl, l2, ?_⟩
    exact ⟨a * c, b * d, rfl, l3, l4, fun H' p hp sm e => q H' p hp sm e⟩
theorem D_plus (T : Hd K mg) : Fn P w K mg base CX0 3 "plus" spPlus := by
  have D_made := fun {P w base} => D_made (P := P) (w := w) (base := base) T
  obtain ⟨fd, F⟩ := T.d_plus
  refine ⟨T.g_plus, T.p_plus, fd, ["one", "other"], ?_, FunD.bindsN F fun _ _ _ _ _ _ us hl => match us, hl with | [_, _], _ => rfl⟩
  refine F.ok sc_plus (fun vs H Q E h => ?_) (fun cdv A outer s H vs Q E hr h => ⟨_, PSs.nox (pss_one (ps_ret (pe_fn D_made (hr.mono (by first | decide | omega)) rfl pass0 (pa_cons (pe_op op_addN (pe_op op_mulN (pe_ix ix_tup (pv 0) pe_int (fun _ _ => rfl)) (pe_ix ix_tup (pv 1) pe_int (fun _ _ => rfl))) (pe_op op_mulN (pe_ix ix_tup (pv 1) pe_int (fun _ _ => rfl)) (pe_ix ix_tup (pv 0) pe_int (fun _ _ => rfl)))) (pa_cons (pe_op op_mulN (pe_ix ix_tup (pv 0) pe_int (fun _ _ => rfl)) (pe_ix ix_tup (pv 1) pe_int (fun _ _ => rfl))) pa_nil))))), ?_⟩)
  · obtain ⟨_, _, _, _, _, _, rfl, _⟩ := h; rfl
  · obtain ⟨_, _, a, b, c, d, rfl, ⟨v, rfl, hv⟩, ⟨w', rfl, hw⟩, l1, l2, l5, l3, l4, q⟩ := h
    refine ⟨_, rfl, v, _, _, _, rfl, rfl, SqT.of hv, rfl, _, rfl, w', _, _, _, rfl, rfl, SqT.of hw, rfl, a, d, rfl, rfl, l1, ?_⟩
    refine ⟨_, rfl, w', _, _, _, rfl, rfl, SqT.of hw, rfl, _, rfl, v, _, _, _, rfl, rfl, SqT.of hv, rfl, c, b, rfl, rfl, l5, _, _, rfl, rfl, ?_⟩
    refine ⟨_, rfl, v, _, _, _, rfl, rfl, SqT.of hv, rfl, _, rfl, w', _, _, _, rfl, rfl, SqT.of hw, rfl, b, d, rfl, rfl, l2, ?_⟩
    exact ⟨a * d + c * b, b * d, rfl, l3, l4, fun H' p hp sm e => q H' p hp sm e⟩
theorem D_nothing_drawn (T : Hd K mg) : Fn P w K mg base CX0 1 "nothing_drawn" (spNothing K) := by
  obtain ⟨fd, F⟩ := T.d_nothing_drawn
  refine ⟨T.g_nothing_drawn, T.p_nothing_drawn, fd, ["table"], ?_, FunD.bindsN F fun _ _ _ _ _ _ us hl => match us, hl with | [_], _ => rfl⟩
  refine F.ok sc_nothing_drawn (fun vs H Q E h => ?_) (fun cdv A outer s H vs Q E hr h => ⟨_, PSs.nox (pss_one (ps_ret (pe_op op_repA (pe_tup (pa_cons pe_non pa_nil)) (pe_fld (pv 0) rfl)))), ?_⟩)
  · obtain ⟨_, _, rfl, _⟩ := h; rfl
  · obtain ⟨t, rows, rfl, ht, h0, h1, q⟩ := h
    refine ⟨sz1, fun p hp => ?_⟩
    have ht' := ht.same (Same.new hp (o := .tup [.non]))
    obtain ⟨C, dx, ra, g1, hC, nr, ns, hrw⟩ := ht'.rd T
    refine ⟨_, rfl, t, C, dx, _, _, rfl, g1, hC, ns, rfl, p, _, [.non], rfl, rfl, upd_same, by simp, by omega, by omega, by decide, fun p2 H' sm h2 => ?_⟩
    refine q H' p2 (Same.trans (Same.new hp) sm) ?_
    rw [h2]
    have : ∀ n : Nat, (List.replicate n [V.non]).flatten = (List.replicate n none : Stg).map oV := by
      intro n
      induction n with
      | zero => rfl
      | succ n ih => rw [List.replicate_succ, List.flatten_cons, ih, List.replicate_succ, List.map_cons]; rfl
    rw [show (((rows.length : Nat) : Int)).toNat = rows.length from rfl, this]
end
end Fo
end
section
set_option Elab.async false
set_option linter.all false
/-! Seating one after another: what a round of it does, and why a failure says that there is no dealing. No program here. -/
namespace Fo
def Deal (rows : List (List Nat)) : Prop := ∃ d : List Nat, d.length = rows.length ∧ d.Nodup ∧ ∀ (i : Nat) (r : List Nat) (x : Nat), rows[i]? = some r → d[i]? = some x → x ∈ r
/-- of and owner fit one another and the rows -/
structure Fit (rows : List (List Nat)) (f g : Nat → Option Nat) : Prop where
  inv : ∀ x p, g x = some p ↔ f p = some x
  row : ∀ p x, f p = some x → ∃ r, rows[p]? = some r ∧ x ∈ r
def setF (f : Nat → Option Nat) (n x : Nat) : Nat → Option Nat := fun m => if m = n then some x else f m
theorem setF_same {f : Nat → Option Nat} {n x : Nat} : setF f n x n = some x := if_pos rfl
theorem setF_ne {f : Nat → Option Nat} {n x m : Nat} (h : m ≠ n) : setF f n x m = f m := if_neg h
/-- came: things reached, with the person who reached them -/
structure Came (rows : List (List Nat)) (f : Nat → Option Nat) (person : Nat) (cm : List (Nat × Nat)) : Prop where
  nd : (cm.map (·.1)).Nodup
  row : ∀ e ∈ cm, ∃ r, rows[e.2]? = some r ∧ e.1 ∈ r
  back : ∀ (i : Nat) (e : Nat × Nat), cm[i]? = some e → e.2 = person ∨ ∃ (j : Nat) (e' : Nat × Nat), j < i ∧ cm[j]? = some e' ∧ f e.2 = some e'.1
def look (cm : List (Nat × Nat)) (x : Nat) : Option Nat := (cm.find? fun e => decide (e.1 = x)).map (·.2)
theorem look_cons (e : Nat × Nat) (cm : List (Nat × Nat)) (x : Nat) : look (e :: cm) x = if e.1 = x then some e.2 else look cm x := by
  unfold look
  rw [List.find?_cons]
  by_cases h : e.1 = x
  · rw [if_pos h, decide_eq_true h]; rfl
  · rw [if_neg h, decide_eq_false h]
theorem look_snoc (cm : List (Nat × Nat)) (t h x : Nat) (hn : t ∉ cm.map (·.1)) : look (cm ++ [(t, h)]) x = setF (look cm) t h x := by
  induction cm with
  | nil =>
    show look [(t, h)] x = _
    rw [look_cons]
    unfold setF
    by_cases e : x = t
    · rw [if_pos e, if_pos e.symm]
    · rw [if_neg e, if_neg (fun z => e z.symm)]
  | cons e cm ih =>
    rw [List.map_cons, List.mem_cons, not_or] at hn
    rw [List.cons_append, look_cons, ih hn.2]
    by_cases z : e.1 = x
    · rw [if_pos z]
      have : x ≠ t := fun q => hn.1 (by rw [z, q])
      rw [setF_ne this, look_cons, if_pos z]
    · rw [if_neg z]
      unfold setF
      rw [look_cons, if_neg z]
theorem look_at {cm : List (Nat × Nat)} (hn : (cm.map (·.1)).Nodup) {i : Nat} {e : Nat × Nat} (h : cm[i]? = some e) : look cm e.1 = some e.2 := by
  induction cm generalizing i with
  | nil => simp at h
  | cons c cm ih =>
    rw [List.map_cons, List.nodup_cons] at hn
    rw [look_cons]
    cases i with
    | zero => rw [List.getElem?_cons_zero] at h; cases h; rw [if_pos rfl]
    | succ i =>
      rw [List.getElem?_cons_succ] at h
      have : c.1 ≠ e.1 := fun z => hn.1 (by rw [z]; exact List.mem_map.mpr ⟨e, List.mem_of_getElem? h, rfl⟩)
      rw [if_neg this]
      exact ih hn.2 h
theorem look_some {cm : List (Nat × Nat)} {x h : Nat} (e : look cm x = some h) : ∃ i : Nat, cm[i]? = some (x, h) := by
  induction cm with
  | nil => cases e
  | cons c cm ih =>
    rw [look_cons] at e
    by_cases z : c.1 = x
    · rw [if_pos z] at e
      cases e
      exact ⟨0, by rw [List.getElem?_cons_zero, ← z]⟩
    · rw [if_neg z] at e
      obtain ⟨i, hi⟩ := ih e
      exact ⟨i + 1, by rw [List.getElem?_cons_succ]; exact hi⟩
theorem look_none {cm : List (Nat × Nat)} {x : Nat} : look cm x = none ↔ x ∉ cm.map (·.1) := by
  induction cm with
  | nil => simp [look]
  | cons c cm ih =>
    rw [look_cons, List.map_cons, List.mem_cons, not_or]
    by_cases z : c.1 = x
    · rw [if_pos z]; exact ⟨fun h => (nomatch h), fun h => absurd z.symm h.1⟩
    · rw [if_neg z, ih]; exact ⟨fun h => ⟨fun q => z q.symm, h⟩, fun h => h.2⟩
theorem nd_inj {cm : List (Nat × Nat)} (hn : (cm.map (·.1)).Nodup) {i j : Nat} {e e' : Nat × Nat} (h : cm[i]? = some e) (h' : cm[j]? = some e') (q : e.1 = e'.1) : i = j := by
  have h1 : (cm.map (·.1))[i]? = some e.1 := by rw [List.getElem?_map, h]; rfl
  have h2 : (cm.map (·.1))[j]? = some e.1 := by rw [List.getElem?_map, h', q]; rfl
  exact (List.getElem?_inj (List.getElem?_eq_some_iff.mp h1).1 hn).mp (h1.trans h2.symm)

/-- while things are handed on: t is nobody's -/
structure Hand (rows : List (List Nat)) (f0 : Nat → Option Nat) (person : Nat) (cm : List (Nat × Nat)) (f g : Nat → Option Nat) (i t here : Nat) : Prop where
  at_ : cm[i]? = some (t, here)
  free : ∀ p, f p ≠ some t
  inv : ∀ x p, x ≠ t → (g x = some p ↔ f p = some x)
  row : ∀ p x, f p = some x → ∃ r, rows[p]? = some r ∧ x ∈ r
  old : ∀ (p j : Nat) (e : Nat × Nat), j < i → cm[j]? = some e → f0 p = some e.1 → f p = some e.1
  dom : ∀ p, (f p).isSome = (f0 p).isSome
theorem Hand.start {rows : List (List Nat)} {f g : Nat → Option Nat} {person : Nat} {cm : List (Nat × Nat)} {i t here : Nat} (F : Fit rows f g) (h : cm[i]? = some (t, here)) (hg : g t = none) : Hand rows f person cm f g i t here :=
  ⟨h, fun p e => (by rw [(F.inv t p).mpr e] at hg; cases hg), fun x p _ => F.inv x p, F.row, fun _ _ _ _ _ e => e, fun _ => rfl⟩
theorem Hand.step {rows : List (List Nat)} {f0 f g : Nat → Option Nat} {person : Nat} {cm : List (Nat × Nat)} {i t here : Nat} (C : Came rows f0 person cm) (h : Hand rows f0 person cm f g i t here) (hne : here ≠ person) :
    ∃ j elder here', j < i ∧ f here = some elder ∧ look cm elder = some here' ∧ Hand rows f0 person cm (setF f here t) (setF g t here) j elder here' := by
  rcases C.back i _ h.at_ with e | ⟨j, e', hj, hc, hf⟩
  · exact absurd e hne
  have hf' : f0 here = some e'.1 := hf
  have hel := h.old here j e' hj hc hf'
  have tne : e'.1 ≠ t := fun z => by
    have := nd_inj C.nd hc h.at_ z
    omega
  refine ⟨j, e'.1, e'.2, hj, hel, look_at C.nd hc, ⟨hc, fun p hp => ?_, fun x p hx => ?_, fun p x hp => ?_, fun p j' e'' hj' hc' hp => ?_, fun p => ?_⟩⟩
  · by_cases z : p = here
    · rw [z, setF_same] at hp; cases hp; exact tne rfl
    · rw [setF_ne z] at hp
      have h1 := (h.inv _ p tne).mpr hp
      have h2 := (h.inv _ here tne).mpr hel
      rw [h1] at h2; cases h2; exact z rfl
  · by_cases xt : x = t
    · rw [xt, setF_same]
      constructor
      · intro z; cases z; exact setF_same
      · intro z
        by_cases q : p = here
        · rw [q]
        · rw [setF_ne q] at z; exact absurd z (h.free p)
    · rw [setF_ne xt, h.inv x p xt]
      by_cases q : p = here
      · rw [q, setF_same, hel]
        exact ⟨fun z => absurd (Option.some.inj z).symm hx, fun z => absurd (Option.some.inj z).symm xt⟩
      · rw [setF_ne q]
  · by_cases q : p = here
    · rw [q, setF_same] at hp
      cases hp
      rw [q]
      exact C.row _ (List.mem_of_getElem? h.at_)
    · rw [setF_ne q] at hp; exact h.row p x hp
  · have : p ≠ here := fun z => by
      rw [z, hf'] at hp
      have := nd_inj C.nd hc hc' (Option.some.inj hp)
      omega
    rw [setF_ne this]
    exact h.old p j' e'' (by omega) hc' hp
  · by_cases q : p = here
    · rw [q, setF_same, hf']; rfl
    · rw [setF_ne q]; exact h.dom p
theorem Hand.done {rows : List (List Nat)} {f0 f g : Nat → Option Nat} {person : Nat} {cm : List (Nat × Nat)} {i t here : Nat} (C : Came rows f0 person cm) (h : Hand rows f0 person cm f g i t here) (he : here = person) (hp0 : f0 person = none) :
    Fit rows (setF f here t) (setF g t here) ∧ (∀ p, (setF f here t p).isSome = ((f0 p).isSome || decide (p = person))) := by
  subst he
  have hf : f here = none := by
    have := h.dom here
    rw [hp0] at this
    cases z : f here with
    | none => rfl
    | some _ => rw [z] at this; cases this
  refine ⟨⟨fun x p => ?_, fun p x hp => ?_⟩, fun p => ?_⟩
  · by_cases xt : x = t
    · rw [xt, setF_same]
      constructor
      · intro z; cases z; exact setF_same
      · intro z
        by_cases q : p = here
        · rw [q]
        · rw [setF_ne q] at z; exact absurd z (h.free p)
    · rw [setF_ne xt, h.inv x p xt]
      by_cases q : p = here
      · rw [q, setF_same, hf]
        exact ⟨fun z => (nomatch z), fun z => absurd (Option.some.inj z).symm xt⟩
      · rw [setF_ne q]
  · by_cases q : p = here
    · rw [q, setF_same] at hp
      cases hp
      rw [q]
      exact C.row _ (List.mem_of_getElem? h.at_)
    · rw [setF_ne q] at hp; exact h.row p x hp
  · by_cases q : p = here
    · rw [q, setF_same]; simp
    · rw [setF_ne q, h.dom p]; simp [q]

/-- the round's search: done and waiting are those who were reached -/
structure Seek (rows : List (List Nat)) (f g : Nat → Option Nat) (person : Nat) (cm : List (Nat × Nat)) (done wait : List Nat) : Prop where
  came : Came rows f person cm
  own : ∀ e ∈ cm, ∃ p, g e.1 = some p
  reach : done ++ wait = person :: cm.map fun e => (g e.1).getD 0
  all : ∀ p ∈ done, ∀ r, rows[p]? = some r → ∀ x ∈ r, x ∈ cm.map (·.1)
theorem Seek.here {rows : List (List Nat)} {f g : Nat → Option Nat} {person : Nat} {cm : List (Nat × Nat)} {done wait : List Nat} (F : Fit rows f g) (S : Seek rows f g person cm done wait) {here : Nat} (hm : here ∈ done ++ wait) :
    here = person ∨ ∃ (j : Nat) (e : Nat × Nat), j < cm.length ∧ cm[j]? = some e ∧ f here = some e.1 := by
  rw [S.reach] at hm
  rcases List.mem_cons.mp hm with z | z
  · exact .inl z
  · obtain ⟨e, he, hg⟩ := List.mem_map.mp z
    obtain ⟨p, h1⟩ := S.own e he
    rw [h1] at hg
    have hg : p = here := hg
    subst hg
    obtain ⟨j, hj⟩ := List.getElem?_of_mem he
    exact .inr ⟨j, e, (List.getElem?_eq_some_iff.mp hj).1, hj, (F.inv _ _).mp h1⟩
theorem Seek.came_add {rows : List (List Nat)} {f g : Nat → Option Nat} {person : Nat} {cm : List (Nat × Nat)} {done wait : List Nat} {here x : Nat} {r : List Nat} (F : Fit rows f g) (S : Seek rows f g person cm done (here :: wait)) (hx : x ∉ cm.map (·.1)) (hr : rows[here]? = some r) (hxr : x ∈ r) :
    Came rows f person (cm ++ [(x, here)]) := by
  refine ⟨?_, fun e he => ?_, fun i e he => ?_⟩
  · rw [List.map_append]
    exact List.nodup_append.mpr ⟨S.came.nd, by simp, fun a ha b hb => by
      have : b = x := by simpa using hb
      rw [this]
      exact fun z => hx (z ▸ ha)⟩
  · rcases List.mem_append.mp he with z | z
    · exact S.came.row e z
    · rw [List.mem_singleton.mp z]; exact ⟨r, hr, hxr⟩
  · by_cases hi : i < cm.length
    · rw [List.getElem?_append_left hi] at he
      rcases S.came.back i e he with z | ⟨j, e', h1, h2, h3⟩
      · exact .inl z
      · exact .inr ⟨j, e', h1, by rw [List.getElem?_append_left (by omega)]; exact h2, h3⟩
    · rw [List.getElem?_append_right (by omega)] at he
      have e0 : i - cm.length = 0 := by
        rcases Nat.eq_zero_or_pos (i - cm.length) with z | z
        · exact z
        · rw [List.getElem?_eq_none (by show 1 ≤ _; omega)] at he; cases he
      rw [e0] at he
      cases he
      rcases S.here F (here := here) (List.mem_append_right _ List.mem_cons_self) with z | ⟨j, e', h1, h2, h3⟩
      · exact .inl z
      · exact .inr ⟨j, e', by omega, by rw [List.getElem?_append_left h1]; exact h2, h3⟩
theorem Seek.add {rows : List (List Nat)} {f g : Nat → Option Nat} {person : Nat} {cm : List (Nat × Nat)} {done wait : List Nat} {here x p : Nat} {r : List Nat} (F : Fit rows f g) (S : Seek rows f g person cm done (here :: wait)) (hx : x ∉ cm.map (·.1)) (hr : rows[here]? = some r) (hxr : x ∈ r) (hg : g x = some p) :
    Seek rows f g person (cm ++ [(x, here)]) done (here :: (wait ++ [p])) := by
  refine ⟨S.came_add F hx hr hxr, fun e he => ?_, ?_, fun q hq r' hr' y hy => ?_⟩
  · rcases List.mem_append.mp he with z | z
    · exact S.own e z
    · rw [List.mem_singleton.mp z]; exact ⟨p, hg⟩
  · have := S.reach
    rw [List.map_append]
    show _ = (person :: cm.map fun e => (g e.1).getD 0) ++ _
    rw [← this]
    simp [hg]
  · rw [List.map_append]; exact List.mem_append_left _ (S.all q hq r' hr' y hy)
theorem Seek.next {rows : List (List Nat)} {f g : Nat → Option Nat} {person : Nat} {cm : List (Nat × Nat)} {done wait : List Nat} {here : Nat} (S : Seek rows f g person cm done (here :: wait)) (h : ∀ r, rows[here]? = some r → ∀ x ∈ r, x ∈ cm.map (·.1)) : Seek rows f g person cm (done ++ [here]) wait := by
  refine ⟨S.came, S.own, by rw [← S.reach]; simp, fun p hp => ?_⟩
  rcases List.mem_append.mp hp with z | z
  · exact S.all p z
  · rw [List.mem_singleton.mp z]; exact h
theorem Seek.start {rows : List (List Nat)} {f g : Nat → Option Nat} {person : Nat} : Seek rows f g person [] [] [person] :=
  ⟨⟨by simp, fun e h => (nomatch h), fun i e h => by simp at h⟩, fun e h => (nomatch h), rfl, fun p h => (nomatch h)⟩
theorem Seek.fail {rows : List (List Nat)} {f g : Nat → Option Nat} {person : Nat} {cm : List (Nat × Nat)} {done : List Nat} (F : Fit rows f g) (S : Seek rows f g person cm done []) (hp : f person = none) (hlt : person < rows.length) : ¬ Deal rows := by
  rintro ⟨d, hd, hn, hr⟩
  have e := S.reach
  rw [List.append_nil] at e
  have hdn : done.Nodup := by
    rw [e, List.nodup_cons]
    refine ⟨fun z => ?_, ?_⟩
    · obtain ⟨c, hc, hg⟩ := List.mem_map.mp z
      obtain ⟨p, h1⟩ := S.own c hc
      rw [h1] at hg
      have := (F.inv _ _).mp h1
      rw [show p = person from hg, hp] at this
      cases this
    · refine List.pairwise_map.mpr (List.Pairwise.imp_of_mem ?_ (List.pairwise_map.mp S.came.nd))
      intro a b ha hb hab z
      obtain ⟨p, h1⟩ := S.own a ha
      obtain ⟨p', h2⟩ := S.own b hb
      rw [h1, h2] at z
      have z : p = p' := z
      subst z
      have e1 := (F.inv _ _).mp h1
      have e2 := (F.inv _ _).mp h2
      rw [e1] at e2
      exact hab (Option.some.inj e2)
  have hin : ∀ p ∈ done, p < rows.length := by
    intro p hp'
    rw [e] at hp'
    rcases List.mem_cons.mp hp' with rfl | z
    · exact hlt
    · obtain ⟨c, hc, hg⟩ := List.mem_map.mp z
      obtain ⟨q, h1⟩ := S.own c hc
      rw [h1] at hg
      obtain ⟨r, h2, _⟩ := F.row _ _ ((F.inv _ _).mp h1)
      rw [← show q = p from hg]
      exact (List.getElem?_eq_some_iff.mp h2).1
  have hsub : ∀ y ∈ done.map (fun p => d.getD p 0), y ∈ cm.map (·.1) := by
    intro y hy
    obtain ⟨p, hpd, rfl⟩ := List.mem_map.mp hy
    have hpl := hin p hpd
    have h1 : rows[p]? = some rows[p] := List.getElem?_eq_getElem hpl
    have h2 : d[p]? = some d[p] := List.getElem?_eq_getElem (by omega)
    have := hr p _ _ h1 h2
    rw [List.getD_eq_getElem?_getD, h2]
    exact S.all p hpd _ h1 _ this
  have hnd : (done.map fun p => d.getD p 0).Nodup := by
    refine List.pairwise_map.mpr (List.Pairwise.imp_of_mem ?_ hdn)
    intro a b ha hb hab z
    have la := hin a ha
    have lb := hin b hb
    rw [List.getD_eq_getElem?_getD, List.getD_eq_getElem?_getD, List.getElem?_eq_getElem (by omega : a < d.length), List.getElem?_eq_getElem (by omega : b < d.length)] at z
    have z : d[a]'(by omega) = d[b]'(by omega) := z
    have h1 : d[a]? = d[b]? := by rw [List.getElem?_eq_getElem (by omega : a < d.length), List.getElem?_eq_getElem (by omega : b < d.length), z]
    exact hab ((List.getElem?_inj (by omega) hn).mp h1)
  have := List.Nodup.length_le_of_subset hnd (fun y hy => hsub y hy)
  rw [List.length_map, List.length_map, e, List.length_cons, List.length_map] at this
  omega
theorem Fit.deal {rows : List (List Nat)} {f g : Nat → Option Nat} (F : Fit rows f g) (h : ∀ p, p < rows.length → f p ≠ none) : Deal rows := by
  refine ⟨(List.range rows.length).map fun p => (f p).getD 0, by simp, ?_, fun i r x hr hx => ?_⟩
  · refine List.pairwise_map.mpr (List.Pairwise.imp_of_mem ?_ List.nodup_range)
    intro a b ha hb hab z
    have la := List.mem_range.mp ha
    have lb := List.mem_range.mp hb
    cases ea : f a with
    | none => exact h a la ea
    | some x =>
      cases eb : f b with
      | none => exact h b lb eb
      | some y =>
        rw [ea, eb] at z
        have z : x = y := z
        subst z
        have h1 := (F.inv _ _).mpr ea
        have h2 := (F.inv _ _).mpr eb
        rw [h1] at h2
        exact hab (Option.some.inj h2)
  · have hl := (List.getElem?_eq_some_iff.mp hr).1
    rw [List.getElem?_map, List.getElem?_range hl] at hx
    have hx : (f i).getD 0 = x := Option.some.inj hx
    cases ea : f i with
    | none => exact absurd ea (h i hl)
    | some y =>
      rw [ea] at hx
      have hx : y = x := hx
      obtain ⟨r', h1, h2⟩ := F.row i y ea
      rw [hr] at h1
      cases h1
      rw [← hx]; exact h2
/-- a dealing is a sequence -/
theorem deal_cnt {rows : List (List Nat)} (hx : ∀ r ∈ rows, ∀ x ∈ r, x < rows.length) : Deal rows ↔ 0 < cnt rows (2 ^ rows.length - 1) := by
  unfold cnt
  rw [List.length_pos_iff_exists_mem]
  constructor
  · rintro ⟨d, h1, h2, h3⟩
    refine ⟨d, mem_comp.mpr ⟨h1, h2, fun x hxd => ?_, h3⟩⟩
    obtain ⟨i, hi⟩ := List.getElem?_of_mem hxd
    have hl := (List.getElem?_eq_some_iff.mp hi).1
    have hr : rows[i]? = some (rows[i]'(by omega)) := List.getElem?_eq_getElem (by omega)
    rw [whole_bit]
    exact decide_eq_true (hx _ (List.mem_of_getElem? hr) x (h3 i _ x hr hi))
  · rintro ⟨d, hd⟩
    obtain ⟨h1, h2, _, h3⟩ := mem_comp.mp hd
    exact ⟨d, h1, h2, h3⟩
end Fo
end
section
set_option Elab.async false
set_option linter.all false
set_option maxRecDepth 100000
/-! Standings within a turn, and what the walk over them finds. -/
namespace Fo
theorem wm_bit {st : Stg} (h : st.length ≤ 6) (j : Nat) : (wm st).testBit j = decide (st[j]? = some none) := by
  unfold wm bsum
  rw [bits_sum _ (List.Pairwise.filter _ List.nodup_range) (fun x hx => by have := List.mem_range.mp (List.mem_filter.mp hx).1; omega)]
  refine decide_eq_decide.mpr ?_
  rw [List.mem_filter, List.mem_range, decide_eq_true_iff]
  exact ⟨fun h => h.2, fun h => ⟨(List.getElem?_eq_some_iff.mp h).1, h⟩⟩
theorem lm_bit {st : Stg} (h : st.length ≤ 6) (j : Nat) : (lm st).testBit j = (decide (j < st.length) && !decide (some j ∈ st)) := by
  unfold lm bsum
  rw [bits_sum _ (List.Pairwise.filter _ List.nodup_range) (fun x hx => by have := List.mem_range.mp (List.mem_filter.mp hx).1; omega)]
  rw [Bool.eq_iff_iff, decide_eq_true_iff, List.mem_filter, List.mem_range, Bool.and_eq_true, decide_eq_true_iff]
theorem wm_lt {st : Stg} (h : st.length ≤ 6) : wm st < 2 ^ st.length := Nat.lt_pow_two_of_testBit _ fun i hi => by
  rw [wm_bit h]
  exact decide_eq_false fun z => by have := (List.getElem?_eq_some_iff.mp z).1; omega
theorem lm_lt {st : Stg} (h : st.length ≤ 6) : lm st < 2 ^ st.length := Nat.lt_pow_two_of_testBit _ fun i hi => by
  rw [lm_bit h, decide_eq_false (by omega : ¬ i < st.length)]; rfl
theorem cnt_le {k : Nat} : ∀ {rs : List (List Nat)} {m : Nat}, (∀ r ∈ rs, r.length ≤ k) → cnt rs m ≤ k ^ rs.length
  | [], m, _ => Nat.le_refl _
  | r :: rs, m, h => by
    rw [cnt_cons, List.length_cons, Nat.pow_succ]
    have h1 : (opn r m).length ≤ k := Nat.le_trans (List.length_filter_le _ _) (h r List.mem_cons_self)
    have h2 : ∀ x ∈ opn r m, cnt rs (m - 2 ^ x) ≤ k ^ rs.length := fun x _ => cnt_le fun r hr => h r (List.mem_cons_of_mem _ hr)
    have h3 : ∀ l : List Nat, (∀ x ∈ l, cnt rs (m - 2 ^ x) ≤ k ^ rs.length) → (l.map fun x => cnt rs (m - 2 ^ x)).sum ≤ l.length * k ^ rs.length := by
      intro l hl
      induction l with
      | nil => exact Nat.zero_le _
      | cons y l ih =>
        rw [List.map_cons, List.sum_cons, List.length_cons, Nat.succ_mul, Nat.add_comm]
        exact Nat.add_le_add (ih fun x hx => hl x (List.mem_cons_of_mem _ hx)) (hl y List.mem_cons_self)
    refine Nat.le_trans (h3 _ h2) ?_
    rw [Nat.mul_comm]
    exact Nat.mul_le_mul_left _ h1
/-- a standing behind i draws of the turn t -/
structure Std (t : List Nat) (n i : Nat) (st : Stg) : Prop where
  len : st.length = n
  non : ∀ p, st[p]? = some none ↔ p ∈ t.drop i
  lms : (bitsOf (lm st)).length = n - i
theorem turn_lt {n : Nat} {t : List Nat} (ht : IsTurn n t) {p : Nat} : p ∈ t ↔ p < n := by rw [ht.mem_iff, List.mem_range]
theorem turn_nd {n : Nat} {t : List Nat} (ht : IsTurn n t) : t.Nodup := ht.nodup_iff.mpr List.nodup_range
theorem turn_len {n : Nat} {t : List Nat} (ht : IsTurn n t) : t.length = n := by rw [ht.length_eq, List.length_range]
theorem lm_start (n : Nat) (h : n ≤ 6) : lm (List.replicate n none) = whole n := by
  have : ∀ k : Fin 7, lm (List.replicate k.val none) = whole k.val := by decide
  exact this ⟨n, by omega⟩
theorem Std.start {n : Nat} {t : List Nat} (hn : n ≤ 6) (ht : IsTurn n t) : Std t n 0 (List.replicate n none) := by
  refine ⟨List.length_replicate, fun p => ?_, ?_⟩
  · rw [List.drop_zero, turn_lt ht, List.getElem?_replicate]
    by_cases h : p < n
    · simp [h]
    · simp [h]
  · rw [lm_start n hn, bitsOf_whole hn, List.length_range]; rfl
theorem drop_at {t : List Nat} {i q : Nat} (h : t[i]? = some q) : t.drop i = q :: t.drop (i + 1) := by
  obtain ⟨h1, h2⟩ := List.getElem?_eq_some_iff.mp h
  rw [List.drop_eq_getElem_cons h1, h2]
section
variable {n i q : Nat} {t : List Nat} {st : Stg}
theorem Std.at_ (S : Std t n i st) (hi : t[i]? = some q) : st[q]? = some none := (S.non q).mpr (by rw [drop_at hi]; exact List.mem_cons_self)
theorem Std.wms (S : Std t n i st) (hn : n ≤ 6) (ht : IsTurn n t) : (bitsOf (wm st)).Perm (t.drop i) := by
  refine perm_of_nodup (bitsOf_nodup _) ((turn_nd ht).sublist (List.drop_sublist _ _)) fun p => ?_
  rw [mem_bitsOf, wm_bit (by rw [S.len]; exact hn), decide_eq_true_iff, S.non]
  refine ⟨fun h => h.2, fun h => ⟨?_, h⟩⟩
  have := (turn_lt ht).mp (List.mem_of_mem_drop h)
  omega
theorem mem_set_iff {st : Stg} {q x j : Nat} (h : st[q]? = some none) : some j ∈ st.set q (some x) ↔ j = x ∨ some j ∈ st := by
  obtain ⟨hl, _⟩ := List.getElem?_eq_some_iff.mp h
  constructor
  · intro hm
    rcases List.mem_or_eq_of_mem_set hm with z | z
    · exact .inr z
    · exact .inl (Option.some.inj z)
  · intro hm
    obtain ⟨p, hp⟩ : ∃ p : Nat, (st.set q (some x))[p]? = some (some j) := by
      rcases hm with rfl | hm
      · exact ⟨q, by rw [List.getElem?_set_self hl]⟩
      · obtain ⟨p, hp⟩ := List.getElem?_of_mem hm
        have : q ≠ p := fun z => by rw [← z, h] at hp; cases hp
        exact ⟨p, by rw [List.getElem?_set_ne this]; exact hp⟩
    exact List.mem_of_getElem? hp
theorem lm_set (hl : st.length ≤ 6) (h : st[q]? = some none) {x : Nat} (hx : (lm st).testBit x = true) : lm (st.set q (some x)) = lm st - 2 ^ x := by
  refine Nat.eq_of_testBit_eq fun j => ?_
  have hm := mem_set_iff (x := x) (j := j) h
  rw [lm_bit (by rw [List.length_set]; exact hl), clr hx, lm_bit hl, List.length_set]
  by_cases e : j = x
  · subst e
    have : some j ∈ st.set q (some j) := hm.mpr (.inl rfl)
    simp [this]
  · by_cases e2 : some j ∈ st
    · have : some j ∈ st.set q (some x) := hm.mpr (.inr e2)
      simp [this, e2]
    · have : some j ∉ st.set q (some x) := fun z => by
        rcases hm.mp z with z | z
        · exact e z
        · exact e2 z
      simp [this, e2, e]
theorem Std.next (S : Std t n i st) (hn : n ≤ 6) (ht : IsTurn n t) (hi : t[i]? = some q) {x : Nat} (hx : (lm st).testBit x = true) : Std t n (i + 1) (st.set q (some x)) := by
  have hq := S.at_ hi
  have hl : st.length ≤ 6 := by rw [S.len]; exact hn
  obtain ⟨hql, _⟩ := List.getElem?_eq_some_iff.mp hq
  refine ⟨by rw [List.length_set]; exact S.len, fun p => ?_, ?_⟩
  · have nd := (turn_nd ht).sublist (List.drop_sublist i t)
    rw [drop_at hi, List.nodup_cons] at nd
    by_cases e : p = q
    · subst e
      rw [List.getElem?_set_self hql]
      exact ⟨fun z => (nomatch z), fun z => absurd z nd.1⟩
    · rw [List.getElem?_set_ne (fun z => e z.symm), S.non, drop_at hi, List.mem_cons]
      exact ⟨fun z => z.resolve_left e, fun z => .inr z⟩
  · rw [lm_set hl hq hx]
    have hx6 : x < 6 := by
      have := lm_bit hl x
      rw [hx] at this
      have := (Bool.and_eq_true_iff.mp this.symm).1
      have := of_decide_eq_true this
      omega
    have := bitsOf_len hx6 hx
    have := S.lms
    omega
theorem opsm_eq (rows : List (List Nat)) {qs : List Nat} {pm tm q : Nat} (r : List Nat) (hp : (bitsOf (pm - 2 ^ q)).Perm qs) : opsm rows r q pm tm = ops r (qs.map (rowOf rows)) tm := by
  unfold opsm ops
  congr 1
  refine List.map_congr_left fun x _ => ?_
  unfold cntm
  rw [cnt_perm (hp.map (rowOf rows))]
theorem Std.rest (S : Std t n i st) (hn : n ≤ 6) (ht : IsTurn n t) (hi : t[i]? = some q) : (bitsOf (wm st - 2 ^ q)).Perm (t.drop (i + 1)) := by
  have hq := S.at_ hi
  have hw := S.wms hn ht
  have hb : (wm st).testBit q = true := by rw [wm_bit (by rw [S.len]; exact hn)]; exact decide_eq_true hq
  have hq6 : q < 6 := by have := (List.getElem?_eq_some_iff.mp hq).1; rw [S.len] at this; omega
  have := (bitsOf_clr hq6 hb).symm.trans hw
  rw [drop_at hi] at this
  exact (List.perm_cons q).mp this
/-- what opens gives at a standing -/
theorem Std.opens (rows : List (List Nat)) (S : Std t n i st) (hn : n ≤ 6) (ht : IsTurn n t) (hi : t[i]? = some q) (r : List Nat) : opsm rows r q (wm st) (lm st) = ops r ((t.drop (i + 1)).map (rowOf rows)) (lm st) := opsm_eq rows r (S.rest hn ht hi)
end
theorem mem_putN {xs : Ent} {k : Stg} {b : PySem.Addr} {v : L2.V} {st : Stg} : st ∈ (putN xs k b v).map (·.1) ↔ st = k ∨ st ∈ xs.map (·.1) := by
  unfold putN
  by_cases e : (getN xs k).isSome = true
  · rw [if_pos e, List.map_map]
    have e1 : ((fun x : Stg × PySem.Addr × L2.V => x.1) ∘ fun x => if x.1 = k then (x.1, x.2.1, v) else x) = fun x => x.1 := by
      funext x
      show (if x.1 = k then (x.1, x.2.1, v) else x).1 = x.1
      split <;> rfl
    rw [e1]
    refine ⟨fun h => .inr h, fun h => ?_⟩
    rcases h with rfl | h
    · refine Classical.byContradiction fun z => ?_
      rw [getN_none.mpr z] at e
      cases e
    · exact h
  · rw [if_neg e, List.map_append, List.mem_append]
    exact ⟨fun h => h.elim .inr fun z => .inl (by simpa using z), fun h => h.elim (fun z => .inr (by simpa using z)) .inl⟩
/-! ### what the number found says at each point of the walk; T: what is to come of it -/
def Iv1 (rs : List (List Nat)) (T : Nat → Prop) (fnd : Nat) (ks : List Stg) : Prop := ∀ k, (fnd ∣ k ∧ ∀ st ∈ ks, Dv rs (lm st) k) ↔ T k
def Iv2 (r : List Nat) (rs : List (List Nat)) (T : Nat → Prop) (fnd : Nat) (ks ls : List Stg) : Prop := ∀ k, (fnd ∣ k ∧ (∀ st ∈ ks, Dv (r :: rs) (lm st) k) ∧ ∀ st ∈ ls, Dv rs (lm st) k) ↔ T k
def Iv3 (r : List Nat) (rs : List (List Nat)) (T : Nat → Prop) (fnd : Nat) (es : List (Nat × Nat)) (c m : Nat) (ks ls : List Stg) : Prop := ∀ k, (fnd ∣ k ∧ (∀ e ∈ es, den e.2 c ∣ k ∧ Dv rs (m - 2 ^ e.1) k) ∧ (∀ st ∈ ks, Dv (r :: rs) (lm st) k) ∧ ∀ st ∈ ls, Dv rs (lm st) k) ↔ T k
section
variable {r : List Nat} {rs : List (List Nat)} {T : Nat → Prop} {fnd c m : Nat} {ks ls : List Stg} {st : Stg}
theorem Iv1.two (h : Iv1 (r :: rs) T fnd ks) : Iv2 r rs T fnd ks [] := fun k => by
  rw [← h k]
  exact ⟨fun z => ⟨z.1, z.2.1⟩, fun z => ⟨z.1, z.2, fun _ h => (nomatch h)⟩⟩
theorem Iv2.three (h : Iv2 r rs T fnd (st :: ks) ls) : Iv3 r rs T fnd (ops r rs (lm st)) (cnt (r :: rs) (lm st)) (lm st) ks ls := fun k => by
  rw [← h k]
  constructor
  · rintro ⟨a, b, c, d⟩
    exact ⟨a, fun s hs => by rcases List.mem_cons.mp hs with rfl | hs; exact b; exact c s hs, d⟩
  · rintro ⟨a, b, d⟩
    exact ⟨a, b st List.mem_cons_self, fun s hs => b s (List.mem_cons_of_mem _ hs), d⟩
theorem Iv3.step {x cn : Nat} {es : List (Nat × Nat)} {ls' : List Stg} {st' : Stg} (h : Iv3 r rs T fnd ((x, cn) :: es) c m ks ls) (hl : ∀ s, s ∈ ls' ↔ s = st' ∨ s ∈ ls) (hm : lm st' = m - 2 ^ x) : Iv3 r rs T (Nat.lcm fnd (den cn c)) es c m ks ls' := fun k => by
  rw [← h k]
  constructor
  · rintro ⟨a, b, d, e⟩
    refine ⟨Nat.dvd_trans (Nat.dvd_lcm_left _ _) a, fun e' he => ?_, d, fun s hs => e s ((hl s).mpr (.inr hs))⟩
    rcases List.mem_cons.mp he with rfl | he
    · exact ⟨Nat.dvd_trans (Nat.dvd_lcm_right _ _) a, by rw [← hm]; exact e st' ((hl st').mpr (.inl rfl))⟩
    · exact b e' he
  · rintro ⟨a, b, d, e⟩
    have b0 := b (x, cn) List.mem_cons_self
    refine ⟨Nat.lcm_dvd a b0.1, fun e' he => b e' (List.mem_cons_of_mem _ he), d, fun s hs => ?_⟩
    rcases (hl s).mp hs with rfl | hs
    · rw [hm]; exact b0.2
    · exact e s hs
theorem Iv3.two (h : Iv3 r rs T fnd [] c m ks ls) : Iv2 r rs T fnd ks ls := fun k => by
  rw [← h k]
  exact ⟨fun z => ⟨z.1, fun _ h => (nomatch h), z.2⟩, fun z => ⟨z.1, z.2.2⟩⟩
theorem Iv2.one (h : Iv2 r rs T fnd [] ls) : Iv1 rs T fnd ls := fun k => by
  rw [← h k]
  exact ⟨fun z => ⟨z.1, fun _ h => (nomatch h), z.2⟩, fun z => ⟨z.1, z.2.2⟩⟩
end
end Fo
end
section
set_option Elab.async false
set_option linter.all false
/-! Fractions in lowest terms. -/
namespace Fo
theorem red_mul {a b : Nat} (hb : 0 < b) : redT a b * b = a * redB a b := by
  unfold redT redB
  have hg : 0 < Nat.gcd a b := Nat.gcd_pos_of_pos_right _ hb
  obtain ⟨x, hx⟩ := Nat.gcd_dvd_left a b
  obtain ⟨y, hy⟩ := Nat.gcd_dvd_right a b
  generalize Nat.gcd a b = g at hg hx hy
  subst hx hy
  rw [Nat.mul_div_cancel_left _ hg, Nat.mul_div_cancel_left _ hg]
  ac_rfl
theorem redB_pos {a b : Nat} (hb : 0 < b) : 0 < redB a b := by
  unfold redB
  exact Nat.div_pos (Nat.le_of_dvd hb (Nat.gcd_dvd_right _ _)) (Nat.gcd_pos_of_pos_right _ hb)
theorem red_cop {a b : Nat} (hb : 0 < b) : Nat.Coprime (redT a b) (redB a b) := by
  unfold redT redB
  exact Nat.coprime_div_gcd_div_gcd (Nat.gcd_pos_of_pos_right _ hb)
/-- equal ratios have the same lowest terms -/
theorem red_eq {a b c d : Nat} (hb : 0 < b) (hd : 0 < d) (h : a * d = c * b) : redT a b = redT c d ∧ redB a b = redB c d := by
  have h1 := red_mul (a := a) hb
  have h2 := red_mul (a := c) hd
  have c1 := red_cop (a := a) hb
  have c2 := red_cop (a := c) hd
  have p1 := redB_pos (a := a) hb
  have p2 := redB_pos (a := c) hd
  generalize redT a b = x at *
  generalize redB a b = y at *
  generalize redT c d = u at *
  generalize redB c d = v at *
  -- x / y = a / b = c / d = u / v
  have e : x * v = u * y := by
    have : x * v * (b * d) = u * y * (b * d) := by
      calc x * v * (b * d) = x * b * v * d := by ac_rfl
        _ = a * y * v * d := by rw [h1]
        _ = a * d * (y * v) := by ac_rfl
        _ = c * b * (y * v) := by rw [h]
        _ = c * v * (b * y) := by ac_rfl
        _ = u * d * (b * y) := by rw [h2]
        _ = u * y * (b * d) := by ac_rfl
    exact Nat.eq_of_mul_eq_mul_right (Nat.mul_pos hb hd) this
  have d1 : y ∣ v := c1.symm.dvd_of_dvd_mul_left (by rw [e]; exact Nat.dvd_mul_left _ _)
  have d2 : v ∣ y := c2.symm.dvd_of_dvd_mul_left (by rw [← e]; exact Nat.dvd_mul_left _ _)
  have eyv := Nat.dvd_antisymm d1 d2
  subst eyv
  exact ⟨Nat.eq_of_mul_eq_mul_right p1 e, rfl⟩
theorem redB_le {a b : Nat} : redB a b ≤ b := Nat.div_le_self _ _
theorem redT_le {a b : Nat} : redT a b ≤ a := Nat.div_le_self _ _
/-- (a / b) + (1 / s), a / b the lowest terms of q / s -/
theorem red_succ {q s : Nat} (hs : 0 < s) : redT (redT q s * s + 1 * redB q s) (redB q s * s) = redT (q + 1) s ∧ redB (redT q s * s + 1 * redB q s) (redB q s * s) = redB (q + 1) s := by
  refine red_eq (Nat.mul_pos (redB_pos hs) hs) hs ?_
  rw [red_mul hs, Nat.one_mul]
  generalize redB q s = y
  rw [Nat.add_mul, Nat.add_mul, Nat.one_mul]
  ac_rfl
theorem red_zero {s : Nat} (hs : 0 < s) : redT (0 * s + 1 * 1) (1 * s) = redT 1 s ∧ redB (0 * s + 1 * 1) (1 * s) = redB 1 s := by
  rw [Nat.zero_mul, Nat.zero_add, Nat.one_mul, Nat.one_mul]
  exact ⟨rfl, rfl⟩
theorem red_prod {w q s t : Nat} (hs : 0 < s) (ht : 0 < t) : redT (redT w t * redT q s) (redB w t * redB q s) = redT (w * q) (t * s) ∧ redB (redT w t * redT q s) (redB w t * redB q s) = redB (w * q) (t * s) := by
  refine red_eq (Nat.mul_pos (redB_pos ht) (redB_pos hs)) (Nat.mul_pos ht hs) ?_
  calc redT w t * redT q s * (t * s) = redT w t * t * (redT q s * s) := by ac_rfl
    _ = w * redB w t * (q * redB q s) := by rw [red_mul ht, red_mul hs]
    _ = w * q * (redB w t * redB q s) := by ac_rfl
theorem red_idem {a b : Nat} (hb : 0 < b) : redT (0 * redB a b + redT a b * 1) (1 * redB a b) = redT a b ∧ redB (0 * redB a b + redT a b * 1) (1 * redB a b) = redB a b := by
  rw [Nat.zero_mul, Nat.zero_add, Nat.mul_one, Nat.one_mul]
  have := red_eq (a := redT a b) (b := redB a b) (c := a) (d := b) (redB_pos hb) hb (red_mul hb)
  exact this
theorem red_unit {l S N : Nat} (hS : 0 < S) (hN : 0 < N) : (redT l S = 1 ∧ redB l S = N) ↔ l * N = S := by
  constructor
  · rintro ⟨h1, h2⟩
    have := red_mul (a := l) hS
    rw [h1, h2, Nat.one_mul] at this
    exact this.symm
  · intro h
    have := red_eq (a := l) (b := S) (c := 1) (d := N) hS hN (by rw [h, Nat.one_mul])
    have h1 : redT 1 N = 1 := by unfold redT; rw [Nat.gcd_one_left]
    have h2 : redB 1 N = N := by unfold redB; rw [Nat.gcd_one_left, Nat.div_one]
    rw [h1, h2] at this
    exact this
theorem red_one (b : Nat) : redT 1 b = 1 ∧ redB 1 b = b := by
  constructor
  · unfold redT; rw [Nat.gcd_one_left]
  · unfold redB; rw [Nat.gcd_one_left, Nat.div_one]
end Fo
end
section
set_option Elab.async false
set_option linter.all false
/-! What a number found says, told by masks. -/
namespace Fo
def Jv1 (rs : List (List Nat)) (T : Nat → Prop) (fnd : Nat) (ks : List Nat) : Prop := ∀ k, (fnd ∣ k ∧ ∀ m ∈ ks, Dv rs m k) ↔ T k
def Jv2 (r : List Nat) (rs : List (List Nat)) (T : Nat → Prop) (fnd : Nat) (ks ls : List Nat) : Prop := ∀ k, (fnd ∣ k ∧ (∀ m ∈ ks, Dv (r :: rs) m k) ∧ ∀ m ∈ ls, Dv rs m k) ↔ T k
def Jv3 (r : List Nat) (rs : List (List Nat)) (T : Nat → Prop) (fnd : Nat) (es : List (Nat × Nat)) (c m : Nat) (ks ls : List Nat) : Prop := ∀ k, (fnd ∣ k ∧ (∀ e ∈ es, den e.2 c ∣ k ∧ Dv rs (m - 2 ^ e.1) k) ∧ (∀ m ∈ ks, Dv (r :: rs) m k) ∧ ∀ m ∈ ls, Dv rs m k) ↔ T k
section
variable {r : List Nat} {rs : List (List Nat)} {T : Nat → Prop} {fnd c m : Nat} {ks ls : List Nat}
theorem Jv1.two (h : Jv1 (r :: rs) T fnd ks) : Jv2 r rs T fnd ks [] := fun k => by
  rw [← h k]
  exact ⟨fun z => ⟨z.1, z.2.1⟩, fun z => ⟨z.1, z.2, fun _ h => (nomatch h)⟩⟩
theorem Jv2.three (h : Jv2 r rs T fnd (m :: ks) ls) : Jv3 r rs T fnd (ops r rs m) (cnt (r :: rs) m) m ks ls := fun k => by
  rw [← h k]
  constructor
  · rintro ⟨a, b, c, d⟩
    exact ⟨a, fun s hs => by rcases List.mem_cons.mp hs with rfl | hs; exact b; exact c s hs, d⟩
  · rintro ⟨a, b, d⟩
    exact ⟨a, b m List.mem_cons_self, fun s hs => b s (List.mem_cons_of_mem _ hs), d⟩
theorem Jv3.step {x cn : Nat} {es : List (Nat × Nat)} (h : Jv3 r rs T fnd ((x, cn) :: es) c m ks ls) : Jv3 r rs T (Nat.lcm fnd (den cn c)) es c m ks (ls ++ [m - 2 ^ x]) := fun k => by
  rw [← h k]
  constructor
  · rintro ⟨a, b, d, e⟩
    refine ⟨Nat.dvd_trans (Nat.dvd_lcm_left _ _) a, fun e' he => ?_, d, fun s hs => e s (List.mem_append_left _ hs)⟩
    rcases List.mem_cons.mp he with rfl | he
    · exact ⟨Nat.dvd_trans (Nat.dvd_lcm_right _ _) a, e _ (List.mem_append_right _ List.mem_cons_self)⟩
    · exact b e' he
  · rintro ⟨a, b, d, e⟩
    have b0 := b (x, cn) List.mem_cons_self
    refine ⟨Nat.lcm_dvd a b0.1, fun e' he => b e' (List.mem_cons_of_mem _ he), d, fun s hs => ?_⟩
    rcases List.mem_append.mp hs with hs | hs
    · exact e s hs
    · rw [List.mem_singleton.mp hs]; exact b0.2
theorem Jv3.two (h : Jv3 r rs T fnd [] c m ks ls) : Jv2 r rs T fnd ks ls := fun k => by
  rw [← h k]
  exact ⟨fun z => ⟨z.1, fun _ h => (nomatch h), z.2⟩, fun z => ⟨z.1, z.2.2⟩⟩
theorem Jv2.one (h : Jv2 r rs T fnd [] ls) : Jv1 rs T fnd ls := fun k => by
  rw [← h k]
  exact ⟨fun z => ⟨z.1, fun _ h => (nomatch h), z.2⟩, fun z => ⟨z.1, z.2.2⟩⟩
end
theorem shr_len {l : List (Nat × Nat)} {p : List Nat} (h : l.map (·.1) = p) : l.length = p.length := by rw [← h, List.length_map]
end Fo
end
section
set_option Elab.async false
set_option linter.all false
/-! The ends and weights of a drawer, along the layers of its standings. -/
namespace Fo
/-- how many of the first k throws pick x -/
def cq (f : Nat → Option Nat) (x k : Nat) : Nat := ((List.range k).filter fun t => decide (f t = some x)).length
theorem cq_zero (f : Nat → Option Nat) (x : Nat) : cq f x 0 = 0 := rfl
theorem cq_succ {f : Nat → Option Nat} {k y : Nat} (h : f k = some y) (x : Nat) : cq f x (k + 1) = cq f x k + if x = y then 1 else 0 := by
  unfold cq
  rw [List.range_succ, List.filter_append, List.length_append]
  congr 1
  by_cases e : x = y
  · subst e; simp [h]
  · have : ¬ y = x := fun z => e z.symm
    simp [h, e, this]
theorem cq_le (f : Nat → Option Nat) (x k : Nat) : cq f x k ≤ k := by
  unfold cq
  have := List.length_filter_le (fun t => decide (f t = some x)) (List.range k)
  rwa [List.length_range] at this
theorem qs_cq (r : List Nat) (rs : List (List Nat)) (m s x : Nat) : cq (fun t => pk (ops r rs m) (t * cnt (r :: rs) m / s)) x s = qs r rs m s x := rfl
/-! ### layers: masks with weights -/
def Sx (s : Nat) (rs : List (List Nat)) (L : List (Nat × Nat)) : Nat := (L.map fun e => Ln rs e.1 s).sum
def Ax (s : Nat) (rs : List (List Nat)) (L : List (Nat × Nat)) (φ : Nat → Prop) : Prop := ∀ e ∈ L, Al rs e.1 s e.2 φ
structure Lv1 (s : Nat) (rs : List (List Nat)) (T : Nat) (TA : (Nat → Prop) → Prop) (L : List (Nat × Nat)) : Prop where
  sum : Sx s rs L = T
  al : ∀ φ, Ax s rs L φ ↔ TA φ
structure Lv2 (s : Nat) (r : List Nat) (rs : List (List Nat)) (T : Nat) (TA : (Nat → Prop) → Prop) (L M : List (Nat × Nat)) : Prop where
  sum : Sx s (r :: rs) L + Sx s rs M = T
  al : ∀ φ, (Ax s (r :: rs) L φ ∧ Ax s rs M φ) ↔ TA φ
structure Lv3 (s : Nat) (r : List Nat) (rs : List (List Nat)) (T : Nat) (TA : (Nat → Prop) → Prop) (m w : Nat) (xs : List Nat) (L M : List (Nat × Nat)) : Prop where
  sum : (xs.map fun x => Ln rs (m - 2 ^ x) s).sum + Sx s (r :: rs) L + Sx s rs M = T
  al : ∀ φ, ((∀ x ∈ xs, Al rs (m - 2 ^ x) s (w * qs r rs m s x) φ) ∧ Ax s (r :: rs) L φ ∧ Ax s rs M φ) ↔ TA φ
section
variable {s : Nat} {r : List Nat} {rs : List (List Nat)} {T : Nat} {TA : (Nat → Prop) → Prop} {m w : Nat} {xs : List Nat} {L M : List (Nat × Nat)}
theorem Lv1.two (h : Lv1 s (r :: rs) T TA L) : Lv2 s r rs T TA L [] :=
  ⟨h.sum, fun φ => Iff.trans ⟨fun z => z.1, fun z => ⟨z, fun _ q => (nomatch q)⟩⟩ (h.al φ)⟩
theorem Lv2.three (h : Lv2 s r rs T TA ((m, w) :: L) M) (hx : xs.Perm (((ops r rs m).filter fun e => decide (0 < qs r rs m s e.1)).map (·.1))) : Lv3 s r rs T TA m w xs L M := by
  have e : (xs.map fun x => Ln rs (m - 2 ^ x) s).sum = Ln (r :: rs) m s := by
    have h1 := (hx.map fun x => Ln rs (m - 2 ^ x) s).sum_nat
    rw [h1, List.map_map]; rfl
  refine ⟨?_, fun φ => Iff.trans ?_ (h.al φ)⟩
  · have := h.sum
    unfold Sx at this ⊢
    rw [List.map_cons, List.sum_cons] at this
    rw [e]
    exact this
  · have key : (∀ x ∈ xs, Al rs (m - 2 ^ x) s (w * qs r rs m s x) φ) ↔ Al (r :: rs) m s w φ := by
      constructor
      · intro h e he hq
        exact h e.1 (hx.mem_iff.mpr (List.mem_map.mpr ⟨e, List.mem_filter.mpr ⟨he, decide_eq_true hq⟩, rfl⟩))
      · intro h x hxm
        obtain ⟨e, he, rfl⟩ := List.mem_map.mp (hx.mem_iff.mp hxm)
        obtain ⟨h1, h2⟩ := List.mem_filter.mp he
        exact h e h1 (of_decide_eq_true h2)
    rw [key]
    constructor
    · rintro ⟨a, b, c⟩
      exact ⟨fun e he => by rcases List.mem_cons.mp he with rfl | he; exact a; exact b e he, c⟩
    · rintro ⟨a, c⟩
      exact ⟨a (m, w) List.mem_cons_self, fun e he => a e (List.mem_cons_of_mem _ he), c⟩
theorem Lv3.step {x : Nat} (h : Lv3 s r rs T TA m w (x :: xs) L M) : Lv3 s r rs T TA m w xs L (M ++ [(m - 2 ^ x, w * qs r rs m s x)]) := by
  refine ⟨?_, fun φ => Iff.trans ?_ (h.al φ)⟩
  · have := h.sum
    unfold Sx at this ⊢
    rw [List.map_cons, List.sum_cons] at this
    rw [List.map_append, List.sum_append]
    simp only [List.map_cons, List.map_nil, List.sum_cons, List.sum_nil]
    omega
  · constructor
    · rintro ⟨a, b, c⟩
      refine ⟨fun y hy => ?_, b, fun e he => c e (List.mem_append_left _ he)⟩
      rcases List.mem_cons.mp hy with rfl | hy
      · exact c _ (List.mem_append_right _ List.mem_cons_self)
      · exact a y hy
    · rintro ⟨a, b, c⟩
      refine ⟨fun y hy => a y (List.mem_cons_of_mem _ hy), b, fun e he => ?_⟩
      rcases List.mem_append.mp he with he | he
      · exact c e he
      · rw [List.mem_singleton.mp he]; exact a x List.mem_cons_self
theorem Lv3.two (h : Lv3 s r rs T TA m w [] L M) : Lv2 s r rs T TA L M :=
  ⟨by have := h.sum; simp only [List.map_nil, List.sum_nil, Nat.zero_add] at this; exact this, fun φ => Iff.trans ⟨fun z => ⟨fun _ q => (nomatch q), z⟩, fun z => z.2⟩ (h.al φ)⟩
theorem Lv2.one (h : Lv2 s r rs T TA [] M) : Lv1 s rs T TA M :=
  ⟨by have := h.sum; unfold Sx at *; simp only [List.map_nil, List.sum_nil, Nat.zero_add] at this; exact this, fun φ => Iff.trans ⟨fun z => ⟨fun _ q => (nomatch q), z⟩, fun z => z.2⟩ (h.al φ)⟩
theorem Lv1.len (h : Lv1 s [] T TA L) : L.length = T := by
  have := h.sum
  unfold Sx at this
  have e : (fun e : Nat × Nat => Ln [] e.1 s) = fun _ => 1 := rfl
  rw [e] at this
  rw [← this]
  have g : ∀ l : List (Nat × Nat), l.length = (l.map fun _ => 1).sum := fun l => by
    induction l with
    | nil => rfl
    | cons a l ih => rw [List.map_cons, List.sum_cons, List.length_cons, ← ih]; omega
  exact g L
end
end Fo
end
section
set_option Elab.async false
set_option linter.all false
set_option maxRecDepth 100000
set_option maxHeartbeats 4000000
namespace Fo
open PySem PySem.Spec PyProof.Rows L2
theorem kn_tup {K : PySem.W.Frag} {H : Hp} {x : V} (h : Kn H x) : ∃ t b, TyX K H x t ∧ PySem.W.kitOne K t (.type "tuple") = some b ∧ (b = true → ∃ a xs, x = .ref a ∧ H a = some (.tup xs)) ∧ (b = false → ∀ a xs, x = .ref a → H a ≠ some (.tup xs)) := by
  cases x with
  | int i => exact ⟨_, false, .base (.int i), kit_ty (by decide +kernel), fun z => (nomatch z), fun _ _ _ z => (nomatch z)⟩
  | bl i => exact ⟨_, false, .base (.bl i), kit_ty (by decide +kernel), fun z => (nomatch z), fun _ _ _ z => (nomatch z)⟩
  | non => exact ⟨_, false, .base .non, kit_ty (by decide +kernel), fun z => (nomatch z), fun _ _ _ z => (nomatch z)⟩
  | str i => exact ⟨_, false, .base (.str i), kit_ty (by decide +kernel), fun z => (nomatch z), fun _ _ _ z => (nomatch z)⟩
  | ref a =>
    by_cases ht : ∃ xs, H a = some (.tup xs)
    · obtain ⟨xs, ht⟩ := ht
      exact ⟨_, true, .base (.tup ht), kit_ty (by decide +kernel), fun _ => ⟨a, xs, rfl, ht⟩, fun z => (nomatch z)⟩
    · rcases h with ⟨xs, h⟩ | ⟨xs, h⟩
      · exact absurd ⟨xs, h⟩ ht
      · exact ⟨_, false, .base (.lst h), kit_ty (by decide +kernel), fun z => (nomatch z), fun _ b ys e z => by cases e; exact ht ⟨ys, z⟩⟩
  | _ => exact False.elim h
theorem Kn.same {H H' : Hp} {x : V} (h : Kn H x) (k : Same H H') : Kn H' x := by
  cases x with
  | ref a =>
    rcases h with ⟨xs, h⟩ | ⟨xs, h⟩
    · exact .inl ⟨xs, k _ _ h⟩
    · exact .inr ⟨xs, k _ _ h⟩
  | int i => trivial
  | bl i => trivial
  | non => trivial
  | str i => trivial
  | _ => exact h
/-- a turn as it should be -/
def TurnAt (H : Hp) (x : V) (n : Nat) (t : List Nat) : Prop := ∃ a, x = .ref a ∧ H a = some (.tup (t.map iV)) ∧ IsTurn n t
/-- something else -/
def NoAll (H : Hp) (x : V) (n : Nat) : Prop := Kn H x ∧ ∀ a xs, x = .ref a → H a = some (.tup xs) → (∀ y ∈ xs, Kn H y) ∧ (xs.length ≠ n ∨ ∃ y ∈ xs, inW y 0 ((n : Int) - 1) = false)
def spAll : Sp := fun vs H Q _ => ∃ (x : V) (n : Nat), vs = [x, iV n] ∧ n ≤ 12 ∧ ((∃ t, TurnAt H x n t ∧ ∀ H', Same H H' → Q (.bl true) H') ∨ (NoAll H x n ∧ ∀ H', Same H H' → Q (.bl false) H'))
def spAsc : Sp := fun vs H Q _ => ∃ (a : Addr) (ns : List Nat), vs = [.ref a] ∧ H a = some (.tup (ns.map iV)) ∧ ns.length ≤ 100 ∧ Asc ns ∧ ∀ H', Same H H' → Q (.bl true) H'
def spLot : Sp := fun vs H Q _ => ∃ (a : Addr) (n : Nat) (ns : List Nat), vs = [.ref a, iV n] ∧ H a = some (.tup (ns.map iV)) ∧ ns.length ≤ 100 ∧ Asc ns ∧ (∀ x ∈ ns, x < n) ∧ ∀ H', Same H H' → Q (.bl true) H'
def spNumber : Sp := fun vs H Q _ => ∃ x lo hi : Int, vs = [.int x, .int lo, .int hi] ∧ lo ≤ x ∧ x ≤ hi ∧ Q .non H
def spTurn (K : PySem.W.Frag) : Sp := fun vs H Q E => ∃ (tb : Addr) (rows : List (List Nat)) (x : V), vs = [.ref tb, x] ∧ Tab K H tb rows ∧ rows.length ≤ 12 ∧
  ((∃ t, TurnAt H x rows.length t ∧ ∀ H', Same H H' → Q .non H') ∨ (NoAll H x rows.length ∧ ∀ H', Same H H' → E (.ref (He.ga K "NoTurn")) none H'))
theorem inW_nat (x n : Nat) : inW (iV x) 0 ((n : Int) - 1) = decide (x < n) := by
  show (decide ((0 : Int) ≤ (x : Nat)) && decide (((x : Nat) : Int) ≤ (n : Int) - 1)) = _
  rw [decide_eq_true (by omega : (0 : Int) ≤ (x : Nat)), Bool.true_and]
  exact decide_eq_decide.mpr ⟨fun h => by omega, fun h => by omega⟩
theorem sorted_range {ns : List Int} {n : Nat} (hp : ns.Perm ((List.range n).map fun (i : Nat) => (i : Int))) (hs : ns.Pairwise (· ≤ ·)) : ns = (List.range n).map fun (i : Nat) => (i : Int) := by
  refine List.Perm.eq_of_pairwise (le := (· ≤ ·)) (fun a b _ _ h1 h2 => by omega) hs ?_ hp
  exact List.pairwise_map.mpr (List.pairwise_le_range.imp fun h => by omega)
section
variable {P : Program} {w : World} {K : PySem.W.Frag} {mg : Str → Option Value} {base : Heap}
theorem D_is_all_of (T : Hd K mg) : Fn P w K mg base CX0 3 "is_all_of" spAll := by
  have D_is_within := fun {P w base} => D_is_within (P := P) (w := w) (base := base) T
  obtain ⟨fd, F⟩ := T.d_is_all_of
  refine ⟨T.g_is_all_of, T.p_is_all_of, fd, ["thing", "many"], ?_, FunD.bindsN F fun _ _ _ _ _ _ us hl => match us, hl with | [_, _], _ => rfl⟩
  refine F.ok sc_is_all_of (fun vs H Q E h => ?_) (fun cdv A outer s H vs Q E hr h => ⟨_, PSs.nox (pss_cons (ps_if (PW.pt (pw_or (pt_not (pt_val (pe_callB call_isi rfl T.f_isinstance bt_isinstance (pa_cons (pv 0) (pa_cons (pe_bltn (v := .ty "tuple") rfl T.f_tuple bt_tuple rfl) pa_nil))))) (pw_or1 (pt_cmpR op_ne (pe_callB call_len rfl T.f_len bt_len (pa_cons (pv 0) pa_nil)) (pv 1) (nomark _)))))
        (pss_one (ps_ret pe_bl))
        pss_nil)
      (pss_one (ps_ret (pe_and (pe_callB (cr_all rfl) rfl T.f_all bt_all (pa_cons (pe_lc (own := [("one", 2)]) rfl sc_is_all_of.nd (pi_tup (pv 0)) (blkOk_by (own := [("one", 2)]) (N := n_is_all_of) (sc := defScope s_is_all_of) (by decide +kernel)) (fun _ _ _ _ _ => (pg_name (i := 2) sc_is_all_of.nd rfl (.inl rfl))) (fun _ _ _ _ _ => pts_nil) (fun _ _ _ _ _ => (pe_fn D_is_within (hr.mono (by first | decide | omega)) rfl pass0 (pa_cons (pv 2) (pa_cons pe_int (pa_cons (pe_op op_sub (pv 1) pe_int) pa_nil)))))) pa_nil)) (pe_one (pe_cmpR (op_eqD hr.units) (pe_callB cr_sortedTI rfl T.f_sorted bt_sorted (pa_cons (pv 0) pa_nil)) (pe_listRg rfl rfl T.f_list (prg_1 rfl T.f_range (pv 1))) (nomark _))))))), ?_⟩)
  · obtain ⟨_, _, rfl, _⟩ := h; rfl
  · obtain ⟨x, n, rfl, hn, h⟩ := h
    have hkn : Kn H x := by
      rcases h with ⟨t, ⟨a, rfl, ha, _⟩, _⟩ | ⟨h, _⟩
      · exact .inl ⟨_, ha⟩
      · exact h.1
    obtain ⟨ty, b, e1, e2, ht, hf⟩ := kn_tup (K := K) hkn
    cases b with
    | false =>
      have bad : ∀ H', Same H H' → Q (.bl false) H' := by
        rcases h with ⟨t, ⟨a, rfl, ha, _⟩, _⟩ | ⟨_, q⟩
        · exact absurd ha (hf rfl a _ rfl)
        · exact q
      refine ⟨_, rfl, x, .ty "tuple", ty, .type "tuple", false, rfl, .ty _, e1, e2, false, rfl, ?_⟩
      exact iteT (iteT (bad _ (Same.refl _)))
    | true =>
      obtain ⟨a, xs, rfl, ha⟩ := ht rfl
      refine ⟨_, rfl, _, .ty "tuple", ty, .type "tuple", true, rfl, .ty _, e1, e2, true, rfl, ?_⟩
      refine iteF ⟨_, rfl, _, _, rfl, .inr ⟨xs, SqT.of ha, rfl⟩, _, rfl, rfl, (!decide (xs.length = n)), ?_, ?_⟩
      · congr 2
        exact decide_eq_decide.mpr ⟨fun z => by injection z with z; omega, fun z => by rw [z]⟩
      by_cases hl : xs.length = n
      · rw [decide_eq_true hl]
        refine iteF ?_
        have hkx : ∀ y ∈ xs, Kn H y := by
          rcases h with ⟨t, ⟨a', e, ha', _⟩, _⟩ | ⟨h, _⟩
          · cases e
            rw [ha] at ha'
            cases ha'
            intro y hy
            obtain ⟨m, _, rfl⟩ := List.mem_map.mp hy
            trivial
          · exact (h.2 a xs rfl ha).1
        refine ⟨_, rfl, a, rfl, ⟨_, SqT.of ha⟩, fun D hD => ?_⟩
        refine lc_same walk_tup hD (fun i acc _ => acc = ((xs.take i).map fun y => V.bl (inW y 0 ((n : Int) - 1)))) (small1000 (by omega)) (fun H' k => SqT.of (k _ _ ha)) (fun _ _ _ _ _ _ _ h => h) rfl ?_ ?_
        · rintro i v H1 H' acc Fin Skip hi hla k rr ⟨rfl, y⟩ fin skip
          refine ⟨rfl, _, rfl, _, rfl, _, _, rfl, rfl, v, 0, _, rfl, (hkx v (List.mem_of_getElem? y)).same k, fin _ _ (Same.refl _) ?_⟩
          rw [rr, take_snoc y, List.map_append]; rfl
        · intro H1 acc k hla hacc rr
          rw [List.take_length] at rr
          refine ⟨D, xs.map fun y => inW y 0 ((n : Int) - 1), rfl, SqL.of ?_, _, rfl, ?_⟩
          · rw [hacc, rr, List.map_map]; rfl
          · rcases h with ⟨t, ⟨a', e, ha', hperm⟩, q⟩ | ⟨h, q⟩
            · cases e
              rw [ha] at ha'
              cases ha'
              have hall : (((t.map iV).map fun y => inW y 0 ((n : Int) - 1)).all id) = true := by
                rw [List.all_eq_true]
                intro b hb
                obtain ⟨y, hy, rfl⟩ := List.mem_map.mp hb
                obtain ⟨m, hm, rfl⟩ := List.mem_map.mp hy
                have := List.mem_range.mp (hperm.mem_iff.mp hm)
                rw [inW_nat]
                exact decide_eq_true this
              rw [hall]
              have ha1 := k _ _ ha
              refine iteT ⟨_, rfl, a, t.map fun (m : Nat) => ((m : Nat) : Int), rfl, SqT.of (by rw [List.map_map]; exact ha1), by rw [List.length_map] at hl ⊢; omega, fun ns' p hp' hs hp => ?_⟩
              refine ⟨_, rfl, n, rfl, RgOk.of_le (by omega) (by omega) (by omega) (by omega), fun p2 hp2 => ?_⟩
              have n12 : p ≠ p2 := ne_of_none upd_same hp2
              have ens : ns' = (List.range n).map fun (i : Nat) => ((i : Nat) : Int) := sorted_range (hp'.trans (hperm.map _)) hs
              have erg : rgV 0 (n : Int) = ((List.range n).map fun (i : Nat) => ((i : Nat) : Int)).map V.int := by
                unfold rgV
                rw [List.map_map, Int.sub_zero, Int.toNat_natCast]
                exact List.map_congr_left fun i _ => congrArg V.int (Int.zero_add _)
              refine eqL_same (ns := ns') (by rw [upd_ne n12]; exact upd_same) (by rw [upd_same, erg, ens]) ?_
              exact q _ (Same.trans k (Same.trans (Same.new hp) (Same.new hp2)))
            · have hall : ((xs.map fun y => inW y 0 ((n : Int) - 1)).all id) = false := by
                rcases (h.2 a xs rfl ha).2 with z | ⟨y, hy, hz⟩
                · exact absurd hl z
                · rw [List.all_eq_false]
                  exact ⟨_, List.mem_map.mpr ⟨y, hy, rfl⟩, by rw [hz]; decide⟩
              rw [hall]
              exact iteF (q H1 k)
      · have bad : ∀ H', Same H H' → Q (.bl false) H' := by
          rcases h with ⟨t, ⟨a', e, ha', hperm⟩, _⟩ | ⟨_, q⟩
          · cases e
            rw [ha] at ha'
            cases ha'
            have := hperm.length_eq
            rw [List.length_range] at this
            rw [List.length_map] at hl
            exact absurd this hl
          · exact q
        rw [decide_eq_false hl]
        exact iteT (bad _ (Same.refl _))
theorem D_check_turn (T : Hd K mg) (TX : Hx K mg) : Fn P w K mg base (L2N.CX P w) 4 "check_turn" (spTurn K) := by
  have D_is_all_of := fun {P w base} => D_is_all_of (P := P) (w := w) (base := base) T
  obtain ⟨fd, F⟩ := T.d_check_turn
  refine ⟨T.g_check_turn, T.p_check_turn, fd, ["table", "thing"], ?_, FunD.bindsN F fun _ _ _ _ _ _ us hl => match us, hl with | [_, _], _ => rfl⟩
  refine F.ok sc_check_turn (fun vs H Q E h => ?_) (fun cdv A outer s H vs Q E hr h => ⟨_, (pss_one (ps_if (pt_not (pt_val (pe_fn D_is_all_of (hr.mono (by first | decide | omega)) rfl pass0 (pa_cons (pv 1) (pa_cons (pe_fld (pv 0) rfl) pa_nil)))))
        (pss_one (L2N.ps_raise rfl (L2N.takes_of rfl rfl rfl rfl) (pmk_own0 TX.x_NoTurn rfl)))
        pss_nil)), ?_⟩)
  · obtain ⟨_, _, _, rfl, _⟩ := h; rfl
  · obtain ⟨tb, rows, x, rfl, ht, hl, h⟩ := h
    obtain ⟨C, dx, ra, g1, hC, nr, ns, hrw⟩ := ht.rd T
    refine ⟨_, rfl, _, rfl, tb, C, dx, _, _, rfl, g1, hC, ns, rfl, x, rows.length, rfl, hl, ?_⟩
    rcases h with ⟨t, h1, q⟩ | ⟨h1, q⟩
    · exact .inl ⟨t, h1, fun H' sm => ⟨true, rfl, iteF (q H' sm)⟩⟩
    · exact .inr ⟨h1, fun H' sm => ⟨false, rfl, iteT (q H' sm)⟩⟩
end
end Fo
end
section
set_option Elab.async false
set_option linter.all false
set_option maxRecDepth 100000
set_option maxHeartbeats 4000000
namespace Fo
open PySem PySem.Spec PyProof.Rows L2
def spKeep (K : PySem.W.Frag) (c : Str) : Sp := fun vs H Q _ => ∃ t dx ra rows, vs = [.ref t, .ref ra] ∧ H t = some (.ins (He.ga K c) dx []) ∧ Rows H ra rows ∧ ∀ H', SmX t H H' → Tab K H' t rows → Q .non H'
def spTable (K : PySem.W.Frag) : Sp := fun vs H Q _ => ∃ t dx ra rows, vs = [.ref t, .ref ra] ∧ H t = some (.ins (He.ga K "Table") dx []) ∧ Rows H ra rows ∧ 1 ≤ rows.length ∧ rows.length ≤ 12 ∧ (∀ r ∈ rows, Asc r ∧ ∀ x ∈ r, x < rows.length) ∧ ∀ H', SmX t H H' → Tab K H' t rows → Q .non H'
theorem Asc.len {r : List Nat} {n : Nat} (h : Asc r) (hx : ∀ x ∈ r, x < n) : r.length ≤ n := by
  have := nodup_len h.nodup (k := List.range n) (fun y hy => List.mem_range.mpr (hx y hy))
  rwa [List.length_range] at this
section
variable {P : Program} {w : World} {K : PySem.W.Frag} {mg : Str → Option Value} {base : Heap}
theorem keep_body {H : Hp} {t dx ra : Addr} {C : Addr} {rows : List (List Nat)} (hC : C = He.ga K "Table" ∨ C = He.ga K "RawTable") (ht : H t = some (.ins C dx [])) (hr : Rows H ra rows) {n : Nat} (hn : n = rows.length) :
    SmX t H (upd (upd H t (.ins C dx (putF "rows" (.ref ra) []))) t (.ins C dx (putF "size" (iV n) (putF "rows" (.ref ra) [])))) ∧ Tab K (upd (upd H t (.ins C dx (putF "rows" (.ref ra) []))) t (.ins C dx (putF "size" (iV n) (putF "rows" (.ref ra) [])))) t rows := by
  subst hn
  rw [upd_upd]
  have s : SmX t H (upd H t (.ins C dx (putF "size" (iV rows.length) (putF "rows" (.ref ra) [])))) := fun b u nb e => by rw [upd_ne nb]; exact e
  exact ⟨s, C, dx, ra, hC, by rw [upd_same]; rfl, hr.x s (fun xs z => by rw [ht] at z; cases z)⟩
theorem D_Table_keep (T : Hd K mg) : Md P w K mg base CX0 1 "Table" "keep" (spKeep K "Table") := by
  obtain ⟨fd, F⟩ := T.d_Table_keep
  refine ⟨T.c_Table, T.m_Table_keep, fd, ["self", "rows"], ?_, FunD.bindsN F fun _ _ _ _ _ _ us hl => match us, hl with | [_, _], _ => rfl⟩
  refine F.ok sc_Table_keep (fun vs H Q E h => ?_) (fun cdv A outer s H vs Q E hr h => ⟨_, PSs.nox (pss_cons (ps_fld (pv 0) (pv 1) rfl)
      (pss_one (ps_fld (pv 0) (pe_callB call_len rfl T.f_len bt_len (pa_cons (pv 1) pa_nil)) rfl))), ?_⟩)
  · obtain ⟨_, _, _, _, rfl, _⟩ := h; rfl
  · obtain ⟨t, dx, ra, rows, rfl, ht, hrw, q⟩ := h
    obtain ⟨rv, hra, hrl⟩ := hrw.len
    have n1 : ra ≠ t := ne_of hra ht (fun z => nomatch z)
    refine ⟨_, rfl, _, rfl, t, _, dx, [], rfl, ht, T.c_Table, T.n_Table_rows, by decide, ?_⟩
    refine ⟨_, rfl, _, rv.length, rfl, .inr ⟨rv, SqT.of (by rw [upd_ne n1]; exact hra), rfl⟩, _, rfl, t, _, dx, _, rfl, upd_same, T.c_Table, T.n_Table_size, (by show _ < 1000; exact (by decide : 1 < 1000)), ?_⟩
    obtain ⟨a1, a2⟩ := keep_body (.inl rfl) ht hrw hrl
    exact q _ a1 a2
theorem D_RawTable_keep (T : Hd K mg) : Md P w K mg base CX0 1 "RawTable" "keep" (spKeep K "RawTable") := by
  obtain ⟨fd, F⟩ := T.d_RawTable_keep
  refine ⟨T.c_RawTable, T.m_RawTable_keep, fd, ["self", "rows"], ?_, FunD.bindsN F fun _ _ _ _ _ _ us hl => match us, hl with | [_, _], _ => rfl⟩
  refine F.ok sc_Table_keep (fun vs H Q E h => ?_) (fun cdv A outer s H vs Q E hr h => ⟨_, PSs.nox (pss_cons (ps_fld (pv 0) (pv 1) rfl)
      (pss_one (ps_fld (pv 0) (pe_callB call_len rfl T.f_len bt_len (pa_cons (pv 1) pa_nil)) rfl))), ?_⟩)
  · obtain ⟨_, _, _, _, rfl, _⟩ := h; rfl
  · obtain ⟨t, dx, ra, rows, rfl, ht, hrw, q⟩ := h
    obtain ⟨rv, hra, hrl⟩ := hrw.len
    have n1 : ra ≠ t := ne_of hra ht (fun z => nomatch z)
    refine ⟨_, rfl, _, rfl, t, _, dx, [], rfl, ht, T.c_RawTable, T.n_RawTable_rows, by decide, ?_⟩
    refine ⟨_, rfl, _, rv.length, rfl, .inr ⟨rv, SqT.of (by rw [upd_ne n1]; exact hra), rfl⟩, _, rfl, t, _, dx, _, rfl, upd_same, T.c_RawTable, T.n_RawTable_size, (by show _ < 1000; exact (by decide : 1 < 1000)), ?_⟩
    obtain ⟨a1, a2⟩ := keep_body (.inr rfl) ht hrw hrl
    exact q _ a1 a2
theorem D_RawTable_init (T : Hd K mg) : Cn P w K mg base CX0 2 "RawTable" (spKeep K "RawTable") := by
  have D_RawTable_keep := fun {P w base} => D_RawTable_keep (P := P) (w := w) (base := base) T
  obtain ⟨fd, F⟩ := T.d_RawTable_init
  refine ⟨T.g_RawTable, T.mk_RawTable, fd, ["self", "rows"], ?_, FunD.bindsN F fun _ _ _ _ _ _ us hl => match us, hl with | [_, _], _ => rfl⟩
  refine F.ok sc_RawTable_init (fun vs H Q E h => ?_) (fun cdv A outer s H vs Q E hr h => ⟨_, PSs.nox (pss_one (ps_expr (pe_md D_RawTable_keep (hr.mono (by first | decide | omega)) pass0 (pv 0) (pa_cons (pv 1) pa_nil)))), ?_⟩)
  · obtain ⟨_, _, _, _, rfl, _⟩ := h; rfl
  · obtain ⟨t, dx, ra, rows, rfl, ht, hrw, q⟩ := h
    exact ⟨_, rfl, t, dx, _, rfl, ht, rfl, _, rfl, t, dx, ra, rows, rfl, ht, hrw, fun H' a1 a2 => q H' a1 a2⟩
theorem D_are_ascending (T : Hd K mg) : Fn P w K mg base CX0 1 "are_ascending" spAsc := by
  obtain ⟨fd, F⟩ := T.d_are_ascending
  refine ⟨T.g_are_ascending, T.p_are_ascending, fd, ["things"], ?_, FunD.bindsN F fun _ _ _ _ _ _ us hl => match us, hl with | [_], _ => rfl⟩
  refine F.ok sc_are_ascending (fun vs H Q E h => ?_) (fun cdv A outer s H vs Q E hr h => ⟨_, PSs.nox (pss_one (ps_ret (pe_callB (cr_all rfl) rfl T.f_all bt_all (pa_cons (pe_lc (own := [("one", 1), ("other", 2)]) rfl sc_are_ascending.nd (RZ.pi_zipA rfl T.f_zip (pa_cons (pv 0) (pa_cons (pe_slice sl_tupA (pv 0) (po_some pe_int) po_none) pa_nil))) (blkOk_by (own := [("one", 1), ("other", 2)]) (N := n_are_ascending) (sc := defScope s_are_ascending) (by decide +kernel)) (fun _ _ _ _ _ => (pg_tupK (K := K) (n := 2) rfl (pgs_cons (pg_name (i := 1) sc_are_ascending.nd rfl (.inl rfl)) (pgs_cons (pg_name (i := 2) sc_are_ascending.nd rfl (.inl rfl)) pgs_nil)))) (fun _ _ _ _ _ => pts_nil) (fun _ _ _ _ _ => (pe_cmpR op_lt (pv 1) (pv 2) (nomark _)))) pa_nil)))), ?_⟩)
  · obtain ⟨_, _, rfl, _⟩ := h; rfl
  · obtain ⟨a, ns, rfl, ha, hl, hasc, q⟩ := h
    refine ⟨_, rfl, _, rfl, 1, rfl, ?_⟩
    refine slN_from (k := 1) ha fun H1 p s1 hp => ?_
    refine ⟨a, p, ns.map iV, _, rfl, .inr ⟨SqT.of (s1 _ _ ha), SqT.of hp, fun D hD => ?_⟩⟩
    refine lc_same (walk_zipT (n := ns.length - 1) (xs := ns.map iV) (ys := (ns.map iV).drop 1) (by rw [List.length_drop, List.length_map]; omega)) hD (fun i acc _ => acc = ((ns.take i).map fun _ => V.bl true)) (small1000 (by omega)) (fun H' k => ⟨SqT.of (k _ _ (s1 _ _ ha)), SqT.of (k _ _ hp)⟩) (fun _ _ _ _ _ _ _ h => h) rfl ?_ ?_
    · rintro i v H2 H' acc Fin Skip hi hla k rr ⟨Tp, x, y, rfl, hT, rfl, hx, hy⟩ fin skip
      obtain ⟨m, hm, rfl⟩ := map_at hx
      have hy' : ((ns.map iV).drop 1)[i]? = some y := hy
      rw [List.getElem?_drop] at hy'
      obtain ⟨m2, hm2, rfl⟩ := map_at hy'
      have hlt : m < m2 := by
        obtain ⟨h1, e1⟩ := List.getElem?_eq_some_iff.mp hm
        obtain ⟨h2, e2⟩ := List.getElem?_eq_some_iff.mp hm2
        have := List.pairwise_iff_getElem.mp hasc i (1 + i) h1 h2 (by omega)
        rwa [e1, e2] at this
      refine ⟨Tp, _, rfl, SqT.of upd_same, rfl, _, _, rfl, _, _, rfl, rfl, rfl, _, rfl, _, rfl, _, _, rfl, rfl, fin _ _ (Same.new hT) ?_⟩
      rw [rr, take_snoc hm, List.map_append]
      show _ ++ [V.bl (decide (((m : Nat) : Int) < ((m2 : Nat) : Int)))] = _
      rw [decide_eq_true (by omega : ((m : Nat) : Int) < ((m2 : Nat) : Int))]; rfl
    · intro H2 acc k hla hacc rr
      refine ⟨D, (ns.take (ns.length - 1)).map fun _ => true, rfl, SqL.of ?_, ?_⟩
      · rw [hacc, rr, List.map_map]; rfl
      · have hall : (((ns.take (ns.length - 1)).map fun _ => true).all id) = true := by
          rw [List.all_eq_true]
          intro b hb
          obtain ⟨_, _, rfl⟩ := List.mem_map.mp hb
          rfl
        rw [hall]
        exact q H2 (Same.trans s1 k)
theorem D_is_lot_of (T : Hd K mg) : Fn P w K mg base CX0 3 "is_lot_of" spLot := by
  have D_is_within := fun {P w base} => D_is_within (P := P) (w := w) (base := base) T
  have D_are_ascending := fun {P w base} => D_are_ascending (P := P) (w := w) (base := base) T
  obtain ⟨fd, F⟩ := T.d_is_lot_of
  refine ⟨T.g_is_lot_of, T.p_is_lot_of, fd, ["thing", "many"], ?_, FunD.bindsN F fun _ _ _ _ _ _ us hl => match us, hl with | [_, _], _ => rfl⟩
  refine F.ok sc_is_lot_of (fun vs H Q E h => ?_) (fun cdv A outer s H vs Q E hr h => ⟨_, PSs.nox (pss_cons (ps_if (PW.pt (pw_or (pt_not (pt_val (pe_callB call_isi rfl T.f_isinstance bt_isinstance (pa_cons (pv 0) (pa_cons (pe_bltn (v := .ty "tuple") rfl T.f_tuple bt_tuple rfl) pa_nil))))) (pw_or1 (pt_not (pt_val (pe_callB (cr_all rfl) rfl T.f_all bt_all (pa_cons (pe_lc (own := [("one", 2)]) rfl sc_is_lot_of.nd (pi_tup (pv 0)) (blkOk_by (own := [("one", 2)]) (N := n_is_lot_of) (sc := defScope s_is_lot_of) (by decide +kernel)) (fun _ _ _ _ _ => (pg_name (i := 2) sc_is_lot_of.nd rfl (.inl rfl))) (fun _ _ _ _ _ => pts_nil) (fun _ _ _ _ _ => (pe_fn D_is_within (hr.mono (by first | decide | omega)) rfl pass0 (pa_cons (pv 2) (pa_cons pe_int (pa_cons (pe_op op_sub (pv 1) pe_int) pa_nil)))))) pa_nil)))))))
        (pss_one (ps_ret pe_bl))
        pss_nil)
      (pss_one (ps_ret (pe_fn D_are_ascending (hr.mono (by first | decide | omega)) rfl pass0 (pa_cons (pv 0) pa_nil))))), ?_⟩)
  · obtain ⟨_, _, _, rfl, _⟩ := h; rfl
  · obtain ⟨a, n, ns, rfl, ha, hl, hasc, hlt, q⟩ := h
    obtain ⟨ty, b, e1, e2, ht, hf⟩ := kn_tup (K := K) (H := H) (x := .ref a) (.inl ⟨_, ha⟩)
    have hb : b = true := by
      cases b with
      | true => rfl
      | false => exact absurd ha (hf rfl a _ rfl)
    subst hb
    refine ⟨_, rfl, _, .ty "tuple", ty, .type "tuple", true, rfl, .ty _, e1, e2, true, rfl, ?_⟩
    refine iteF ⟨_, rfl, a, rfl, ⟨_, SqT.of ha⟩, fun D hD => ?_⟩
    refine lc_same walk_tup hD (fun i acc _ => acc = ((ns.take i).map fun _ => V.bl true)) (by rw [List.length_map]; exact small1000 (by omega)) (fun H' k => SqT.of (k _ _ ha)) (fun _ _ _ _ _ _ _ h => h) rfl ?_ ?_
    · rintro i v H1 H' acc Fin Skip hi hla k rr ⟨rfl, y⟩ fin skip
      obtain ⟨m, hm, rfl⟩ := map_at y
      refine ⟨rfl, _, rfl, _, rfl, _, _, rfl, rfl, _, 0, _, rfl, trivial, fin _ _ (Same.refl _) ?_⟩
      rw [rr, take_snoc hm, List.map_append, inW_nat, decide_eq_true (hlt m (List.mem_of_getElem? hm))]; rfl
    · intro H1 acc k hla hacc rr
      rw [List.length_map, List.take_length] at rr
      refine ⟨D, ns.map fun _ => true, rfl, SqL.of ?_, ?_⟩
      · rw [hacc, rr, List.map_map]; rfl
      · have hall : ((ns.map fun _ => true).all id) = true := by
          rw [List.all_eq_true]
          intro b hb
          obtain ⟨_, _, rfl⟩ := List.mem_map.mp hb
          rfl
        rw [hall]
        refine ⟨true, rfl, iteF ⟨_, rfl, a, ns, rfl, k _ _ ha, hl, hasc, fun H2 s2 => q H2 (Same.trans k s2)⟩⟩
theorem D_Table_init (T : Hd K mg) : Cn P w K mg base CX0 4 "Table" (spTable K) := by
  have D_Table_keep := fun {P w base} => D_Table_keep (P := P) (w := w) (base := base) T
  have D_is_lot_of := fun {P w base} => D_is_lot_of (P := P) (w := w) (base := base) T
  obtain ⟨fd, F⟩ := T.d_Table_init
  refine ⟨T.g_Table, T.mk_Table, fd, ["self", "rows"], ?_, FunD.bindsN F fun _ _ _ _ _ _ us hl => match us, hl with | [_, _], _ => rfl⟩
  refine F.ok sc_Table_init (fun vs H Q E h => ?_) (fun cdv A outer s H vs Q E hr h => ⟨_, PSs.nox (pss_cons (ps_if (PW.pt (pw_or (pt_not (pt_val (pe_callB call_isi rfl T.f_isinstance bt_isinstance (pa_cons (pv 1) (pa_cons (pe_bltn (v := .ty "tuple") rfl T.f_tuple bt_tuple rfl) pa_nil))))) (pw_or1 (pt_not (pt_chain op_le op_le pe_int (pe_callB call_len rfl T.f_len bt_len (pa_cons (pv 1) pa_nil)) (pe_gc rfl T.k_MOST_PEOPLE_tables))))))
        (pss_one ps_never)
        pss_nil)
      (pss_cons (ps_for PassesOwn.never rfl (pi_enumT rfl T.f_enumerate (pa_cons (pv 1) pa_nil)) (pg_tup rfl (pgs_cons (pg_name (i := 2) sc_Table_init.nd rfl (.inl rfl)) (pgs_cons (pg_name (i := 3) sc_Table_init.nd rfl (.inl rfl)) pgs_nil)))
        (pss_one (ps_if (pt_not (pt_val (pe_fn D_is_lot_of (hr.mono (by first | decide | omega)) rfl pass0 (pa_cons (pv 3) (pa_cons (pe_callB call_len rfl T.f_len bt_len (pa_cons (pv 1) pa_nil)) pa_nil)))))
          (pss_one ps_never)
          pss_nil)))
      (pss_one (ps_expr (pe_md D_Table_keep (hr.mono (by first | decide | omega)) pass0 (pv 0) (pa_cons (pv 1) pa_nil)))))), ?_⟩)
  · obtain ⟨_, _, _, _, rfl, _⟩ := h; rfl
  · obtain ⟨t, dx, ra, rows, rfl, ht, hrw, h1, h12, hro, q⟩ := h
    obtain ⟨rv, hra, hrl⟩ := hrw.len
    obtain ⟨ty, b, e1, e2, hb1, hb2⟩ := kn_tup (K := K) (H := H) (x := .ref ra) (.inl ⟨_, hra⟩)
    have hb : b = true := by
      cases b with
      | true => rfl
      | false => exact absurd hra (hb2 rfl ra _ rfl)
    subst hb
    refine ⟨_, rfl, _, .ty "tuple", ty, .type "tuple", true, rfl, .ty _, e1, e2, true, rfl, ?_⟩
    refine iteF ⟨_, rfl, _, _, rfl, .inr ⟨rv, SqT.of hra, rfl⟩, _, _, rfl, rfl, true, congrArg V.bl (decide_eq_true (by omega)), ?_⟩
    refine iteT ⟨_, _, rfl, rfl, true, congrArg V.bl (decide_eq_true (by omega)), iteF ⟨_, rfl, ra, _, rfl, SqT.of hra, ?_⟩⟩
    refine for_it walk_enumT (fun i σ H' => Same H H' ∧ ∃ x y, σ = [some (.ref t), some (.ref ra), x, y]) ⟨Same.refl _, _, _, rfl⟩ (fun i σ H' _ p => SqT.of (p.1 _ _ hra)) ?_ ?_
    · rintro i v σ H1 H' hi ⟨sm, x0, y0, rfl⟩ ⟨Tp, x, y, rfl, hT, rfl, hx, hy⟩
      cases hx
      have hir : i < rows.length := by omega
      have hrow : rows[i]? = some rows[i] := List.getElem?_eq_getElem hir
      obtain ⟨hasc, hlt⟩ := hro _ (List.mem_of_getElem? hrow)
      obtain ⟨vs, pr, hra2, hvi, hpr⟩ := hrw.at hrow
      rw [hra] at hra2
      cases hra2
      have hy' : rv[i]? = some y := hy
      rw [hvi] at hy'
      cases hy'
      have sm1 := Same.trans sm (Same.new hT (o := .tup [.int (i : Nat), .ref pr]))
      refine ⟨Tp, _, rfl, SqT.of upd_same, rfl, _, _, rfl, _, _, rfl, rfl, ?_⟩
      refine ⟨_, rfl, _, rfl, _, _, rfl, .inr ⟨rv, SqT.of (sm1 _ _ hra), rfl⟩, pr, rv.length, _, rfl, sm1 _ _ hpr, by have := hasc.len hlt; omega, hasc, by rw [hrl]; exact hlt, fun H2 s2 => ⟨true, rfl, iteF ?_⟩⟩
      exact ⟨Same.trans sm1 s2, _, _, rfl⟩
    · rintro σ H1 ⟨sm, x0, y0, rfl⟩
      refine ⟨_, rfl, t, dx, _, rfl, sm _ _ ht, rfl, _, rfl, t, dx, ra, rows, rfl, sm _ _ ht, hrw.same sm, fun H2 sx tb => q H2 (fun b u nb e => sx b u nb (sm b u e)) tb⟩
end
end Fo
end
section
set_option Elab.async false
set_option linter.all false
set_option maxRecDepth 100000
set_option maxHeartbeats 4000000
namespace Fo
open PySem PySem.Spec PyProof.Rows L2
def rowsNames (n : Nat) : List (List Nat) := (List.range n).map fun p => (List.range n).filter fun x => decide (x ≠ p)
def rowsFull (n : Nat) : List (List Nat) := (List.range n).map fun _ => List.range n
def spMkTab (K : PySem.W.Frag) (rows : Nat → List (List Nat)) : Sp := fun vs H Q _ => ∃ n : Nat, vs = [iV n] ∧ 1 ≤ n ∧ n ≤ 12 ∧ ∀ H' t, H t = none → Same H H' → Tab K H' t (rows n) → Q (.ref t) H'
/-- the list of rows made a tuple, the tuple made a table -/
theorem mk_raw {K : PySem.W.Frag} {H H1 : Hp} {D : Addr} {vs : List V} {rows : List (List Nat)} {Q : VK} {E : XK} (sm : Same H H1) (hD : H1 D = some (.lst vs)) (ht : Tups H1 vs (rows.map fun r => r.map iV)) (q : ∀ H' t, H t = none → Same H H' → Tab K H' t rows → Q (.ref t) H') :
    ∀ l, H1 l = none → ∀ x dx, (upd H1 l (.tup vs)) x = none → (upd H1 l (.tup vs)) dx = none → dx ≠ x →
      spKeep K "RawTable" (.ref x :: ([.ref l] ++ [])) (upd (upd (upd H1 l (.tup vs)) dx (.own x)) x (.ins (He.ga K "RawTable") dx [])) (fun v H2 => v = .non ∧ Q (.ref x) H2) E := by
  intro l hl x dx hx hdx hne
  have n1 : l ≠ x := ne_of_none upd_same hx
  have n2 : l ≠ dx := ne_of_none upd_same hdx
  have s3 : Same (upd H1 l (.tup vs)) (upd (upd (upd H1 l (.tup vs)) dx (.own x)) x (.ins (He.ga K "RawTable") dx [])) := fun b u e => by
    rw [upd_ne (ne_of_none e hx), upd_ne (ne_of_none e hdx)]; exact e
  refine ⟨x, dx, l, rows, rfl, upd_same, ⟨vs, by rw [upd_ne n1, upd_ne n2]; exact upd_same, (ht.same (Same.new hl)).same s3⟩, fun H' sx tb => ⟨rfl, ?_⟩⟩
  have s4 := made_same hx hdx sx
  have s5 : Same H H' := Same.trans sm (Same.trans (Same.new hl) s4)
  refine q H' x ?_ s5 tb
  rcases hz : H x with _ | u
  · rfl
  · have := sm _ _ hz
    rw [upd_ne n1.symm, this] at hx
    cases hx
section
variable {P : Program} {w : World} {K : PySem.W.Frag} {mg : Str → Option Value} {base : Heap}
theorem D_check_number (T : Hd K mg) : Fn P w K mg base CX0 3 "check_number" spNumber := by
  have D_is_within := fun {P w base} => D_is_within (P := P) (w := w) (base := base) T
  obtain ⟨fd, F⟩ := T.d_check_number
  refine ⟨T.g_check_number, T.p_check_number, fd, ["thing", "least", "most"], ?_, FunD.bindsN F fun _ _ _ _ _ _ us hl => match us, hl with | [_, _, _], _ => rfl⟩
  refine F.ok sc_check_number (fun vs H Q E h => ?_) (fun cdv A outer s H vs Q E hr h => ⟨_, PSs.nox (pss_one (ps_if (pt_not (pt_val (pe_fn D_is_within (hr.mono (by first | decide | omega)) rfl pass0 (pa_cons (pv 0) (pa_cons (pv 1) (pa_cons (pv 2) pa_nil))))))
        (pss_one ps_never)
        pss_nil)), ?_⟩)
  · obtain ⟨_, _, _, rfl, _⟩ := h; rfl
  · obtain ⟨x, lo, hi, rfl, h1, h2, q⟩ := h
    refine ⟨_, rfl, _, rfl, _, rfl, _, lo, hi, rfl, trivial, ?_⟩
    have e : inW (V.int x) lo hi = true := by
      show (decide _ && decide _) = true
      rw [decide_eq_true h1, decide_eq_true h2]; rfl
    rw [e]
    exact ⟨true, rfl, iteF q⟩
theorem D_names (T : Hd K mg) : Fn P w K mg base CX0 4 "names" (spMkTab K rowsNames) := by
  have D_check_number := fun {P w base} => D_check_number (P := P) (w := w) (base := base) T
  have D_RawTable_init := fun {P w base} => D_RawTable_init (P := P) (w := w) (base := base) T
  obtain ⟨fd, F⟩ := T.d_names
  refine ⟨T.g_names, T.p_names, fd, ["size"], ?_, FunD.bindsN F fun _ _ _ _ _ _ us hl => match us, hl with | [_], _ => rfl⟩
  refine F.ok sc_names (fun vs H Q E h => ?_) (fun cdv A outer s H vs Q E hr h => ⟨_, PSs.nox (pss_cons (ps_expr (pe_fn D_check_number (hr.mono (by first | decide | omega)) rfl pass0 (pa_cons (pv 0) (pa_cons pe_int (pa_cons (pe_gc rfl T.k_MOST_PEOPLE_tables) pa_nil)))))
      (pss_one (ps_ret (pe_mkc D_RawTable_init (hr.mono (by first | decide | omega)) rfl pass0 (pa_cons (pe_callTy call_tuple_of rfl T.f_tuple bt_tuple (pa_cons (pe_lc (own := [("person", 1)]) rfl sc_names.nd (pi_range1 rfl T.f_range (pa_cons (pv 0) pa_nil)) (blkOk_by (own := [("person", 1)]) (N := n_names) (sc := defScope s_names) (by decide +kernel)) (fun _ _ _ _ _ => (pg_name (i := 1) sc_names.nd rfl (.inr rfl))) (fun _ _ _ _ _ => pts_nil) (fun _ _ _ _ _ => (pe_callTy (call_tuple_ofK (K := K)) rfl T.f_tuple bt_tuple (pa_cons (pe_lc (own := [("thing", 2)]) rfl sc_names.nd (pi_range1 rfl T.f_range (pa_cons (pv 0) pa_nil)) (blkOk_by (own := [("thing", 2)]) (N := n_names) (sc := ({ kind := .function, names := [((".0" : PySem.Str), .local), (("person" : PySem.Str), .cell), (("tuple" : PySem.Str), .globalImplicit), (("range" : PySem.Str), .globalImplicit), (("size" : PySem.Str), .cell)], isGenerator := false, isCoroutine := false } : Scope)) (by decide +kernel)) (fun _ _ _ _ _ => (pg_name (i := 2) sc_names.nd rfl (.inl rfl))) (fun _ _ _ _ _ => (pts_one (pt_cmpR op_ne (pv 2) (pv 1) (nomark _)))) (fun _ _ _ _ _ => (pv 2))) pa_nil)))) pa_nil)) pa_nil))))), ?_⟩)
  · obtain ⟨_, rfl, _⟩ := h; rfl
  · obtain ⟨n, rfl, h1, h12, q⟩ := h
    refine ⟨_, rfl, _, 1, 12, rfl, by omega, by omega, ?_⟩
    refine ⟨_, rfl, _, rfl, by omega, by omega, fun D hD => ?_⟩
    refine lc_same (walk_rangeN (n := n)) hD (fun i acc H => Tups H acc (((rowsNames n).take i).map fun (r : List Nat) => r.map iV)) (small1000 (by omega)) (fun _ _ => True.intro) (fun i acc H H' ys hd k r => r.kl (SmX.kl k hd)) .nil ?_ ?_
    · rintro i v H1 H' acc Fin Skip hi hla k rr ⟨rfl, rfl⟩ fin skip
      refine ⟨rfl, _, rfl, _, rfl, by omega, by omega, fun D2 hD2 => ?_⟩
      refine lc_same (walk_rangeN (n := n)) hD2 (fun j acc2 _ => acc2 = ((List.range j).filter fun x => decide (x ≠ i)).map iV) (small1000 (by omega)) (fun _ _ => True.intro) (fun _ _ _ _ _ _ _ h => h) rfl ?_ ?_
      · rintro j v H2 H3 acc2 Fin2 Skip2 hj hla2 k2 rr2 ⟨rfl, rfl⟩ fin2 skip2
        refine ⟨rfl, _, rfl, _, rfl, rfl, decide (j ≠ i), ?_, ?_⟩
        · rw [show decide (j ≠ i) = !decide (j = i) by simp]
          congr 2
          exact decide_eq_decide.mpr ⟨fun z => by injection z with z; omega, fun z => by rw [z]⟩
        · have er : (List.range (j + 1)).filter (fun x => decide (x ≠ i)) = (List.range j).filter (fun x => decide (x ≠ i)) ++ (if decide (j ≠ i) = true then [j] else []) := by
            rw [List.range_succ, List.filter_append]
            congr 1
            cases e : decide (j ≠ i) <;> simp_all
          cases ob : decide (j ≠ i) with
          | true =>
            refine iteT ⟨_, rfl, fin2 _ _ (Same.refl _) ?_⟩
            rw [rr2, er, ob, List.map_append]; rfl
          | false =>
            refine iteF (skip2 _ (Same.refl _) ?_)
            rw [rr2, er, ob, if_neg (by decide), List.append_nil]
      · intro H2 acc2 k2 hla2 hacc2 rr2
        refine ⟨D2, acc2, rfl, .inl ⟨SqL.of hacc2, fun l hl => ?_⟩⟩
        refine fin _ _ (Same.trans k2 (Same.new hl)) ?_
        have hrow : (rowsNames n)[i]? = some ((List.range n).filter fun x => decide (x ≠ i)) := by
          unfold rowsNames
          rw [List.getElem?_map, List.getElem?_range hi]; rfl
        rw [take_snoc hrow, List.map_append]
        exact Tups.snoc ((rr.same k2).same (Same.new hl)) (by rw [upd_same, rr2])
    · intro H1 acc k hla hacc rr
      have e : (rowsNames n).take n = rowsNames n := by rw [List.take_of_length_le]; unfold rowsNames; rw [List.length_map, List.length_range]; exact Nat.le_refl _
      rw [e] at rr
      exact ⟨D, acc, rfl, .inl ⟨SqL.of hacc, mk_raw k hacc rr q⟩⟩
theorem D_full (T : Hd K mg) : Fn P w K mg base CX0 4 "full" (spMkTab K rowsFull) := by
  have D_check_number := fun {P w base} => D_check_number (P := P) (w := w) (base := base) T
  have D_RawTable_init := fun {P w base} => D_RawTable_init (P := P) (w := w) (base := base) T
  obtain ⟨fd, F⟩ := T.d_full
  refine ⟨T.g_full, T.p_full, fd, ["size"], ?_, FunD.bindsN F fun _ _ _ _ _ _ us hl => match us, hl with | [_], _ => rfl⟩
  refine F.ok sc_full (fun vs H Q E h => ?_) (fun cdv A outer s H vs Q E hr h => ⟨_, PSs.nox (pss_cons (ps_expr (pe_fn D_check_number (hr.mono (by first | decide | omega)) rfl pass0 (pa_cons (pv 0) (pa_cons pe_int (pa_cons (pe_gc rfl T.k_MOST_PEOPLE_tables) pa_nil)))))
      (pss_one (ps_ret (pe_mkc D_RawTable_init (hr.mono (by first | decide | omega)) rfl pass0 (pa_cons (pe_callTy call_tuple_of rfl T.f_tuple bt_tuple (pa_cons (pe_lc (own := [("person", 1)]) rfl sc_full.nd (pi_range1 rfl T.f_range (pa_cons (pv 0) pa_nil)) (blkOk_by (own := [("person", 1)]) (N := n_full) (sc := defScope s_full) (by decide +kernel)) (fun _ _ _ _ _ => (pg_name (i := 1) sc_full.nd rfl (.inl rfl))) (fun _ _ _ _ _ => pts_nil) (fun _ _ _ _ _ => (pe_tupRg rfl rfl T.f_tuple (prg_1 rfl T.f_range (pv 0))))) pa_nil)) pa_nil))))), ?_⟩)
  · obtain ⟨_, rfl, _⟩ := h; rfl
  · obtain ⟨n, rfl, h1, h12, q⟩ := h
    refine ⟨_, rfl, _, 1, 12, rfl, by omega, by omega, ?_⟩
    refine ⟨_, rfl, _, rfl, by omega, by omega, fun D hD => ?_⟩
    refine lc_same (walk_rangeN (n := n)) hD (fun i acc H => Tups H acc (((rowsFull n).take i).map fun (r : List Nat) => r.map iV)) (small1000 (by omega)) (fun _ _ => True.intro) (fun i acc H H' ys hd k r => r.kl (SmX.kl k hd)) .nil ?_ ?_
    · rintro i v H1 H' acc Fin Skip hi hla k rr ⟨rfl, rfl⟩ fin skip
      refine ⟨rfl, _, rfl, n, rfl, RgOk.of_le (by omega) (by omega) (by omega) (by omega), fun l hl => fin _ _ (Same.new hl) ?_⟩
      have hrow : (rowsFull n)[i]? = some (List.range n) := by
        unfold rowsFull
        rw [List.getElem?_map, List.getElem?_range hi]; rfl
      rw [take_snoc hrow, List.map_append]
      refine Tups.snoc (rr.same (Same.new hl)) ?_
      rw [upd_same]
      unfold rgV
      rw [Int.sub_zero, Int.toNat_natCast]
      congr 2
      exact List.map_congr_left fun i _ => congrArg V.int (Int.zero_add _)
    · intro H1 acc k hla hacc rr
      have e : (rowsFull n).take n = rowsFull n := by rw [List.take_of_length_le]; unfold rowsFull; rw [List.length_map, List.length_range]; exact Nat.le_refl _
      rw [e] at rr
      exact ⟨D, acc, rfl, .inl ⟨SqL.of hacc, mk_raw k hacc rr q⟩⟩
end
end Fo
end
section
set_option Elab.async false
set_option linter.all false
set_option maxRecDepth 100000
set_option maxHeartbeats 4000000
namespace Fo
open PySem PySem.Spec PyProof.Rows L2
def spRing (K : PySem.W.Frag) : Sp := fun vs H Q _ => ∃ n : Nat, vs = [iV n] ∧ 1 ≤ n ∧ n ≤ 12 ∧ ∀ H' t rows, H t = none → Same H H' → Tab K H' t rows → rows.length = n → (∀ (i : Nat) (r : List Nat), rows[i]? = some r → i ∈ r ∧ r.length ≤ 2 ∧ ∀ x ∈ r, x < n) → Q (.ref t) H'
section
variable {P : Program} {w : World} {K : PySem.W.Frag} {mg : Str → Option Value} {base : Heap}
theorem D_ring (T : Hd K mg) : Fn P w K mg base CX0 4 "ring" (spRing K) := by
  have D_check_number := fun {P w base} => D_check_number (P := P) (w := w) (base := base) T
  have D_RawTable_init := fun {P w base} => D_RawTable_init (P := P) (w := w) (base := base) T
  obtain ⟨fd, F⟩ := T.d_ring
  refine ⟨T.g_ring, T.p_ring, fd, ["size"], ?_, FunD.bindsN F fun _ _ _ _ _ _ us hl => match us, hl with | [_], _ => rfl⟩
  refine F.ok sc_ring (fun vs H Q E h => ?_) (fun cdv A outer s H vs Q E hr h => ⟨_, PSs.nox (pss_cons (ps_expr (pe_fn D_check_number (hr.mono (by first | decide | omega)) rfl pass0 (pa_cons (pv 0) (pa_cons pe_int (pa_cons (pe_gc rfl T.k_MOST_PEOPLE_tables) pa_nil)))))
      (pss_cons (ps_setLc (i := 1) (own := [("person", 2)]) rfl sc_ring.nd rfl rfl (sw_true rfl rfl rfl (by decide +kernel)) (pi_range1 rfl T.f_range (pa_cons (pv 0) pa_nil)) (blkOk_by (own := [("person", 2)]) (N := n_ring) (sc := defScope s_ring) (by decide +kernel)) (fun _ _ _ _ _ => (pg_name (i := 2) sc_ring.nd rfl (.inl rfl))) (fun _ _ _ _ _ => pts_nil) (fun _ _ _ _ _ => (pe_callB (cr_sortedK (K := K)) rfl T.f_sorted bt_sorted (pa_cons (pe_callTy (call_list_dK rfl) rfl T.f_list bt_list (pa_cons (pe_disp (pps_cons (pv 2) pe_bl (pps_cons (pe_op op_mod (pe_op op_add (pv 2) pe_int) (pv 0)) pe_bl pps_nil)) rfl rfl (by decide) (by decide)) pa_nil)) pa_nil))))
      (pss_one (ps_ret (pe_mkc D_RawTable_init (hr.mono (by first | decide | omega)) rfl pass0 (pa_cons (pe_callTy call_tuple_of rfl T.f_tuple bt_tuple (pa_cons (pe_lc (own := [("row", 3)]) rfl sc_ring.nd (pi_list (pv 1)) (blkOk_by (own := [("row", 3)]) (N := n_ring) (sc := defScope s_ring) (by decide +kernel)) (fun _ _ _ _ _ => (pg_name (i := 3) sc_ring.nd rfl (.inl rfl))) (fun _ _ _ _ _ => pts_nil) (fun _ _ _ _ _ => (pe_callTy (call_tuple_ofK (K := K)) rfl T.f_tuple bt_tuple (pa_cons (pv 3) pa_nil)))) pa_nil)) pa_nil)))))), ?_⟩)
  · obtain ⟨_, rfl, _⟩ := h; rfl
  · obtain ⟨n, rfl, h1, h12, q⟩ := h
    refine ⟨_, rfl, _, 1, 12, rfl, by omega, by omega, ?_⟩
    refine ⟨_, rfl, _, rfl, by omega, by omega, fun D hD => ?_⟩
    refine lc_S (walk_rangeN (n := n)) hD (fun _ => False) (fun i acc H => ∃ rs : List (List Nat), rs.length = i ∧ (∀ (j : Nat) (r : List Nat), rs[j]? = some r → j ∈ r ∧ r.length ≤ 2 ∧ ∀ x ∈ r, x < n) ∧ Paired (fun v (r : List Nat) => ∃ p, v = V.ref p ∧ p ≠ D ∧ H p = some (.lst (r.map iV))) acc rs) (fun h => h) (small1000 (by omega)) (fun _ _ _ _ _ => True.intro) (fun i acc H H' ys hd k r => ?_) ⟨[], rfl, fun j r e => by simp at e, .nil⟩ ?_ ?_
    · obtain ⟨rs, a, b, c⟩ := r
      exact ⟨rs, a, b, Paired.mapP c fun _ _ ⟨p, e1, e2, e3⟩ => ⟨p, e1, e2, k _ _ e2 e3⟩⟩
    · rintro i v H1 H' acc Fin Skip hi hla k hacc ⟨rs, a, b, c⟩ ⟨rfl, rfl⟩ fin skip
      refine ⟨rfl, fun dp hdp => ⟨_, rfl, _, rfl, _, _, rfl, rfl, _, rfl, _, _, rfl, rfl, by omega, upd_same, [(.inl ((i : Nat) : Int), .bl true), (.inl ((((i : Nat) : Int) + 1) % ((n : Nat) : Int)), .bl true)], rfl, (show 2 ≤ 15 by decide), dp, _, rfl, upd_same, fun lp hlp => ?_⟩⟩
      have hks : ∃ ns : List Int, (mergeK [] [((.inl ((i : Nat) : Int) : Key), V.bl true), (.inl ((((i : Nat) : Int) + 1) % ((n : Nat) : Int)), .bl true)]).map (fun kv => kV kv.1) = ns.map V.int ∧ ns.length ≤ 2 ∧ ((i : Nat) : Int) ∈ ns ∧ ∀ z ∈ ns, 0 ≤ z ∧ z < n := by
        have hm1 := Int.emod_nonneg (((i : Nat) : Int) + 1) (by omega : ((n : Nat) : Int) ≠ 0)
        have hm2 := Int.emod_lt_of_pos (((i : Nat) : Int) + 1) (by omega : (0 : Int) < ((n : Nat) : Int))
        by_cases e : ((i : Nat) : Int) = (((i : Nat) : Int) + 1) % ((n : Nat) : Int)
        · refine ⟨[((i : Nat) : Int)], ?_, (show 1 ≤ 2 by decide), List.mem_cons_self, fun z hz => by rw [List.mem_singleton.mp hz]; omega⟩
          rw [← e]
          simp [mergeK, putK, kV]
        · refine ⟨[((i : Nat) : Int), (((i : Nat) : Int) + 1) % ((n : Nat) : Int)], ?_, (show 2 ≤ 2 by decide), List.mem_cons_self, fun z hz => ?_⟩
          · simp [mergeK, putK, kV, e]
          · rcases List.mem_cons.mp hz with rfl | hz
            · omega
            · rw [List.mem_singleton.mp hz]; exact ⟨hm1, hm2⟩
      obtain ⟨ns, e1, e2, e3, e4⟩ := hks
      refine ⟨lp, ns, rfl, SqL.of (by rw [upd_same, ← e1]), by omega, fun ns' p hperm _ hp => ?_⟩
      have s1 : Same H' (upd (upd H' dp (.dK [])) dp (.dK (mergeK [] [((.inl ((i : Nat) : Int) : Key), V.bl true), (.inl ((((i : Nat) : Int) + 1) % ((n : Nat) : Int)), .bl true)]))) := by
        rw [upd_upd]; exact Same.new hdp
      have s2 := Same.trans s1 (Same.trans (Same.new hlp) (Same.new hp (o := .lst (ns'.map V.int))))
      have hpD : p ≠ D := by
        have : upd (upd (upd H' dp (.dK [])) dp (.dK (mergeK [] [((.inl ((i : Nat) : Int) : Key), V.bl true), (.inl ((((i : Nat) : Int) + 1) % ((n : Nat) : Int)), .bl true)]))) lp (.lst ((mergeK [] [((.inl ((i : Nat) : Int) : Key), V.bl true), (.inl ((((i : Nat) : Int) + 1) % ((n : Nat) : Int)), .bl true)]).map fun kv => kV kv.1)) D = some (.lst acc) := by
          exact (Same.trans s1 (Same.new hlp)) _ _ hacc
        exact (ne_of_none this hp).symm
      have hnn : ∀ z ∈ ns', 0 ≤ z ∧ z < n := fun z hz => e4 z (hperm.mem_iff.mp hz)
      have hmap : ns'.map V.int = (ns'.map Int.toNat).map iV := by
        rw [List.map_map]
        exact List.map_congr_left fun z hz => by
          show V.int z = V.int ((z.toNat : Nat) : Int)
          rw [Int.toNat_of_nonneg (hnn z hz).1]
      refine fin _ _ (fun b u _ e => s2 b u e) ⟨rs ++ [ns'.map Int.toNat], by rw [List.length_append, a]; rfl, fun j r e => ?_, ?_⟩
      · by_cases hj : j < rs.length
        · rw [List.getElem?_append_left hj] at e
          exact b j r e
        · rw [List.getElem?_append_right (by omega)] at e
          have : j = rs.length := by
            rcases Nat.eq_zero_or_pos (j - rs.length) with z | z
            · omega
            · rw [List.getElem?_eq_none (by show 1 ≤ _; omega)] at e; cases e
          subst this
          rw [Nat.sub_self] at e
          cases e
          refine ⟨List.mem_map.mpr ⟨_, hperm.mem_iff.mpr e3, by omega⟩, by rw [List.length_map, hperm.length_eq]; exact e2, fun x hx => ?_⟩
          obtain ⟨z, hz, rfl⟩ := List.mem_map.mp hx
          have := hnn z hz
          omega
      · exact Paired.snoc (Paired.mapP c fun _ _ ⟨p, x1, x2, x3⟩ => ⟨p, x1, x2, s2 _ _ x3⟩) ⟨p, rfl, hpD, by rw [upd_same, hmap]⟩
    · rintro H1 acc k hla hacc ⟨rs, a, b, c⟩
      have s1 : Same H H1 := fun b u e => k b u (fun h => h) e
      have hlen := Paired.length c
      refine ⟨_, rfl, D, rfl, ⟨_, SqL.of hacc⟩, fun D2 hD2 => ?_⟩
      refine lc_same walk_list hD2 (fun i acc2 H => Tups H acc2 ((rs.take i).map fun (r : List Nat) => r.map iV)) (small1000 (by omega)) (fun H' k2 => SqL.of (k2 _ _ hacc)) (fun i acc2 H H' ys hd k r => r.kl (SmX.kl k hd)) .nil ?_ ?_
      · rintro i v H2 H' acc2 Fin Skip hi hla2 k2 rr2 ⟨rfl, y⟩ fin skip
        obtain ⟨r, hr', p, rfl, _, hp⟩ := paired_get c y
        refine ⟨rfl, _, rfl, p, _, rfl, .inl ⟨SqL.of (k2 _ _ hp), fun l hl => fin _ _ (Same.new hl) ?_⟩⟩
        rw [take_snoc hr', List.map_append]
        exact Tups.snoc (rr2.same (Same.new hl)) upd_same
      · intro H2 acc2 k2 hla2 hacc2 rr2
        rw [hlen, List.take_length] at rr2
        refine ⟨D2, acc2, rfl, .inl ⟨SqL.of hacc2, mk_raw (Same.trans s1 k2) hacc2 rr2 fun H' t ht sm tb => q H' t rs ht sm tb a b⟩⟩
end
end Fo
end
section
set_option Elab.async false
set_option linter.all false
set_option maxRecDepth 100000
set_option maxHeartbeats 4000000
namespace Fo
open PySem PySem.Spec PyProof.Rows L2
def dSet : List Key := (List.range 64).map fun n => Sum.inl ((n : Nat) : Int)
theorem mem_dSet {n : Nat} (h : n < 64) : (Sum.inl ((n : Nat) : Int) : Key) ∈ dSet := List.mem_map.mpr ⟨n, List.mem_range.mpr h, rfl⟩
/-- a dict of numbers by numbers -/
def Dk (H : Hp) (a : Addr) (f : Nat → Option Nat) : Prop := ∃ kvs : List (Key × V), H a = some (.dK kvs) ∧ KvOk dSet kvs ∧ ∀ n : Nat, valV kvs (.inl ((n : Nat) : Int)) = (f n).map iV
theorem Dk.to {H H' : Hp} {a : Addr} {f : Nat → Option Nat} (h : Dk H a f) (k : ∀ kvs, H a = some (.dK kvs) → H' a = some (.dK kvs)) : Dk H' a f := let ⟨kvs, e, r⟩ := h; ⟨kvs, k _ e, r⟩
theorem Dk.same {H H' : Hp} {a : Addr} {f : Nat → Option Nat} (h : Dk H a f) (k : Same H H') : Dk H' a f := h.to fun _ e => k _ _ e
theorem Dk.nil {H : Hp} {a : Addr} (h : H a = some (.dK [])) : Dk H a (fun _ => none) := ⟨[], h, .nil, fun _ => rfl⟩
theorem Dk.get {H : Hp} {a : Addr} {f : Nat → Option Nat} (h : Dk H a f) (n : Nat) : DGet H a (iV n) ((f n).map iV) := by
  obtain ⟨kvs, e, _, r⟩ := h
  rw [← r n]
  exact DGet.k (k := .inl ((n : Nat) : Int)) e
theorem Dk.put {H : Hp} {a : Addr} {f : Nat → Option Nat} (h : Dk H a f) {n : Nat} (hn : n < 64) (x : Nat) : ∃ o, DPut H a (iV n) (iV x) (upd H a o) ∧ Dk (upd H a o) a (setF f n x) := by
  obtain ⟨kvs, e, ok, r⟩ := h
  have hl := ok.len
  have h64 : dSet.length = 64 := by decide
  refine ⟨.dK (putK kvs (.inl ((n : Nat) : Int)) (iV x)), DPut.k (k := .inl ((n : Nat) : Int)) e (by rw [sizeLine_eq]; omega), _, upd_same, ok.put (mem_dSet hn) _, fun m => ?_⟩
  rw [valV_put, r m]
  unfold setF
  by_cases q : m = n
  · rw [if_pos q, q, if_pos rfl]; rfl
  · rw [if_neg q, if_neg (fun z => q (by injection z with z; exact Int.ofNat.inj z))]
def Mat (K : PySem.W.Frag) (H : Hp) (m oa wa : Addr) (rows : List (List Nat)) : Prop := ∃ dx ra, H m = some (.ins (He.ga K "Matching") dx [("rows", .ref ra), ("of", .ref oa), ("owner", .ref wa)]) ∧ Rows H ra rows
theorem Mat.kl {K : PySem.W.Frag} {H H' : Hp} {m oa wa : Addr} {rows : List (List Nat)} (h : Mat K H m oa wa rows) (k : KpL H H') : Mat K H' m oa wa rows := let ⟨dx, ra, e, r⟩ := h; ⟨dx, ra, k _ _ (fun _ z => nomatch z) e, r.kl k⟩
/-- all but two stay -/
def Sm2 (a b : Addr) (H H' : Hp) : Prop := ∀ c u, c ≠ a → c ≠ b → H c = some u → H' c = some u
theorem Mat.sm2 {K : PySem.W.Frag} {H H' : Hp} {m oa wa : Addr} {rows : List (List Nat)} (h : Mat K H m oa wa rows) (k : Sm2 oa wa H H') {f g : Nat → Option Nat} (h1 : Dk H oa f) (h2 : Dk H wa g) : Mat K H' m oa wa rows := by
  obtain ⟨dx, ra, e, r⟩ := h
  obtain ⟨k1, e1, _⟩ := h1
  obtain ⟨k2, e2, _⟩ := h2
  have nt : ∀ b xs, H b = some (.tup xs) → ¬ (b = oa ∨ b = wa) := fun b xs q z => by
    rcases z with rfl | rfl
    · rw [e1] at q; cases q
    · rw [e2] at q; cases q
  refine ⟨dx, ra, k _ _ (ne_of e e1 (fun z => nomatch z)) (ne_of e e2 (fun z => nomatch z)) e, r.but (S := fun b => b = oa ∨ b = wa) (fun b u n q => k b u (fun z => n (.inl z)) (fun z => n (.inr z)) q) nt⟩
def spHand (K : PySem.W.Frag) : Sp := fun vs H Q _ => ∃ (m oa wa ca : Addr) (rows : List (List Nat)) (f g : Nat → Option Nat) (cm : List (Nat × Nat)) (i t here person : Nat), vs = [.ref m, iV t, .ref ca, iV person] ∧ Mat K H m oa wa rows ∧ oa ≠ wa ∧ ca ≠ oa ∧ ca ≠ wa ∧ Dk H oa f ∧ Dk H wa g ∧ Dk H ca (look cm) ∧
  Came rows f person cm ∧ Hand rows f person cm f g i t here ∧ f person = none ∧ person < 64 ∧ (∀ e ∈ cm, e.1 < 64 ∧ e.2 < 64) ∧
  ∀ H' f' g', Sm2 oa wa H H' → Dk H' oa f' → Dk H' wa g' → Fit rows f' g' → (∀ p, (f' p).isSome = ((f p).isSome || decide (p = person))) → Q .non H'
section
variable {P : Program} {w : World} {K : PySem.W.Frag} {mg : Str → Option Value} {base : Heap}
theorem D_Matching_hand_on (T : Hd K mg) : Md P w K mg base CX0 1 "Matching" "hand_on" (spHand K) := by
  obtain ⟨fd, F⟩ := T.d_Matching_hand_on
  refine ⟨T.c_Matching, T.m_Matching_hand_on, fd, ["self", "thing", "came", "person"], ?_, FunD.bindsN F fun _ _ _ _ _ _ us hl => match us, hl with | [_, _, _, _], _ => rfl⟩
  refine F.ok sc_Matching_hand_on (fun vs H Q E h => ?_) (fun cdv A outer s H vs Q E hr h => ⟨_, PSs.nox (have hu := hu_of hr; (pss_cons (ps_set (i := 4) sc_Matching_hand_on.nd rfl (.inl rfl) (pe_dget hu (pv 2) (pv 1) (fun _ _ => rfl)))
      (pss_cons (ps_while PassesOwn.never (pt_cmpR op_ne (pv 4) (pv 3) (nomark _))
        (pss_cons (ps_set (i := 5) sc_Matching_hand_on.nd rfl (.inl rfl) (pe_dget hu (pe_fld (pv 0) rfl) (pv 4) (fun _ _ => rfl)))
        (pss_cons (ps_dput hu (pe_fld (pv 0) rfl) (pv 4) (pv 1) rfl)
        (pss_cons (ps_dput hu (pe_fld (pv 0) rfl) (pv 1) (pv 4) rfl)
        (pss_cons (ps_set (i := 1) sc_Matching_hand_on.nd rfl (.inl rfl) (pv 5))
        (pss_one (ps_set (i := 4) sc_Matching_hand_on.nd rfl (.inl rfl) (pe_dget hu (pv 2) (pv 1) (fun _ _ => rfl)))))))))
      (pss_cons (ps_dput hu (pe_fld (pv 0) rfl) (pv 4) (pv 1) rfl)
      (pss_one (ps_dput hu (pe_fld (pv 0) rfl) (pv 1) (pv 4) rfl)))))), ?_⟩)
  · obtain ⟨_, _, _, _, _, _, _, _, _, _, _, _, rfl, _⟩ := h; rfl
  · obtain ⟨m, oa, wa, ca, rows, f, g, cm, i, t, here, person, rfl, hm, n1, n2, n3, ho, hw, hc, C, hh, hp0, hp64, hsm, q⟩ := h
    have hlk := look_at C.nd hh.at_
    refine ⟨_, rfl, _, rfl, ca, iV here, rfl, by have := hc.get t; rw [show look cm t = some here from hlk] at this; exact this, ?_⟩
    refine ⟨fun i σ H1 => ∃ f' g' t here x, σ = [some (.ref m), some (iV t), some (.ref ca), some (iV person), some (iV here), x] ∧ Sm2 oa wa H H1 ∧ Dk H1 oa f' ∧ Dk H1 wa g' ∧ Hand rows f person cm f' g' i t here, ⟨i, f, g, t, here, _, rfl, fun _ _ _ _ e => e, ho, hw, hh⟩, ?_⟩
    rintro i σ H1 ⟨f', g', t, here, x, rfl, sm, ho1, hw1, hh1⟩
    have hm1 := hm.sm2 sm ho hw
    obtain ⟨dx, ra, em, _⟩ := id hm1
    have hin := hsm _ (List.mem_of_getElem? hh1.at_)
    have two : ∀ (D : Ends) (σ : L2.St) (x : Option V), σ = [some (.ref m), some (iV t), some (.ref ca), some (iV person), some (iV here), x] → (∀ H2, Sm2 oa wa H H2 → Dk H2 oa (setF f' here t) → Dk H2 wa (setF g' t here) → D.nx σ H2) →
        sDPut (tFld K (tVar 0) "of") (tVar 4) (tVar 1) { D with nx := sDPut (tFld K (tVar 0) "owner") (tVar 1) (tVar 4) D } σ H1 := by
      intro D σ x e fin
      subst e
      obtain ⟨o1, p1, d1⟩ := ho1.put hin.2 t
      refine ⟨_, rfl, _, rfl, m, _, dx, _, _, rfl, em, T.c_Matching, T.n_Matching_of, rfl, _, rfl, oa, _, rfl, p1, ?_⟩
      have moa : m ≠ oa := by obtain ⟨kvs, e, _⟩ := ho1; exact ne_of em e (fun z => nomatch z)
      have hw2 : Dk (upd H1 oa o1) wa g' := hw1.to fun kvs e => by rw [upd_ne n1.symm]; exact e
      obtain ⟨o2, p2, d2⟩ := hw2.put hin.1 here
      refine ⟨_, rfl, _, rfl, m, _, dx, _, _, rfl, by rw [upd_ne moa]; exact em, T.c_Matching, T.n_Matching_owner, rfl, _, rfl, wa, _, rfl, p2, ?_⟩
      refine fin _ (fun c u q1 q2 e => ?_) (d1.to fun kvs e => by rw [upd_ne n1]; exact e) d2
      rw [upd_ne q2, upd_ne q1]; exact sm c u q1 q2 e
    by_cases he : here = person
    · obtain ⟨F', hd'⟩ := hh1.done C he hp0
      refine ⟨_, rfl, _, rfl, rfl, false, ?_, iteF ?_⟩
      · rw [he]; simp
      · exact two { nx := fun x H' => Q V.non H', rt := Q } _ _ rfl fun H2 sm2 a b => q H2 _ _ sm2 a b F' hd'
    · obtain ⟨j, elder, here', hj, hel, hlk', hh2⟩ := hh1.step C he
      refine ⟨_, rfl, _, rfl, rfl, true, ?_, iteT ⟨_, fun σ' H' h => h, ?_⟩⟩
      · rw [show decide (iV here = iV person) = false from decide_eq_false (fun z => he (by injection z with z; exact Int.ofNat.inj z))]; rfl
      · refine ⟨_, rfl, m, _, dx, _, _, rfl, em, T.c_Matching, T.n_Matching_of, rfl, _, rfl, oa, iV elder, rfl, by have := ho1.get here; rw [hel] at this; exact this, ?_⟩
        refine two _ (σ := [some (.ref m), some (iV t), some (.ref ca), some (iV person), some (iV here), some (iV elder)]) _ rfl fun H2 sm2 a b => ?_
        have hc2 : Dk H2 ca (look cm) := hc.to fun kvs e => sm2 _ _ n2 n3 e
        refine ⟨_, rfl, _, rfl, _, rfl, ca, iV here', rfl, by have := hc2.get elder; rw [hlk'] at this; exact this, ?_⟩
        exact ⟨j, hj, _, _, elder, here', _, rfl, sm2, a, b, hh2⟩
end
end Fo
end
section
set_option Elab.async false
set_option linter.all false
set_option maxRecDepth 100000
set_option maxHeartbeats 4000000
namespace Fo
open PySem PySem.Spec PyProof.Rows L2
theorem seqIdx {i n : Nat} (h : i < n) : seqIndex? ((i : Nat) : Int) n = some i := by
  unfold seqIndex?
  simp
  omega
def spSeat (K : PySem.W.Frag) : Sp := fun vs H Q _ => ∃ (m oa wa : Addr) (rows : List (List Nat)) (f g : Nat → Option Nat) (person : Nat), vs = [.ref m, iV person] ∧ Mat K H m oa wa rows ∧ oa ≠ wa ∧ Dk H oa f ∧ Dk H wa g ∧ Fit rows f g ∧ f person = none ∧ person < rows.length ∧ rows.length ≤ 64 ∧
  (∀ r ∈ rows, r.length ≤ 64 ∧ ∀ x ∈ r, x < 64) ∧
  (∀ H' f' g', Sm2 oa wa H H' → Dk H' oa f' → Dk H' wa g' → Fit rows f' g' → (∀ p, (f' p).isSome = ((f p).isSome || decide (p = person))) → Q (.bl true) H') ∧ (∀ H', Same H H' → ¬ Deal rows → Q (.bl false) H')
section
variable {P : Program} {w : World} {K : PySem.W.Frag} {mg : Str → Option Value} {base : Heap}
theorem D_Matching_seat (T : Hd K mg) : Md P w K mg base CX0 2 "Matching" "seat" (spSeat K) := by
  have D_Matching_hand_on := fun {P w base} => D_Matching_hand_on (P := P) (w := w) (base := base) T
  obtain ⟨fd, F⟩ := T.d_Matching_seat
  refine ⟨T.c_Matching, T.m_Matching_seat, fd, ["self", "person"], ?_, FunD.bindsN F fun _ _ _ _ _ _ us hl => match us, hl with | [_, _], _ => rfl⟩
  refine F.ok sc_Matching_seat (fun vs H Q E h => ?_) (fun cdv A outer s H vs Q E hr h => ⟨_, PSs.nox (have hu := hu_of hr; (pss_cons (ps_set (i := 2) sc_Matching_seat.nd rfl (.inl rfl) pe_dnewK)
      (pss_cons (ps_set (i := 3) sc_Matching_seat.nd rfl (.inl rfl) (pe_lst (pa_cons (pv 1) pa_nil)))
      (pss_cons (ps_while PassesOwn.never (pt_cmpR op_gt (pe_callB call_len rfl T.f_len bt_len (pa_cons (pv 3) pa_nil)) pe_int (nomark _))
        (pss_cons (ps_set (i := 4) sc_Matching_seat.nd rfl (.inl rfl) (pe_bm PySem.F.plainAttrs_list PySem.F.slot_list_pop PySem.F.type_list_pop mt_popAt (pv 3) (pa_cons pe_int pa_nil)))
        (pss_one (ps_for PassesOwn.never rfl (pi_tup (pe_ix ix_tup (pe_fld (pv 0) rfl) (pv 4) (fun _ _ => rfl))) (pg_name (i := 5) sc_Matching_seat.nd rfl (.inl rfl))
          (pss_one (ps_if (pt_cmp (pc_dnotin hu (pv 5) (pv 2)) rfl)
            (pss_cons (ps_dput hu (pv 2) (pv 5) (pv 4) rfl)
            (pss_cons (ps_if (pt_cmp (pc_dnotin hu (pv 5) (pe_fld (pv 0) rfl)) rfl)
              (pss_cons (ps_expr (pe_md D_Matching_hand_on (hr.mono (by first | decide | omega)) pass0 (pv 0) (pa_cons (pv 5) (pa_cons (pv 2) (pa_cons (pv 1) pa_nil)))))
              (pss_one (ps_ret pe_bl)))
              pss_nil)
            (pss_one (ps_expr (pe_bm PySem.F.plainAttrs_list PySem.F.slot_list_append PySem.F.type_list_append mt_append (pv 3) (pa_cons (pe_dget hu (pe_fld (pv 0) rfl) (pv 5) (fun _ _ => rfl)) pa_nil))))))
            pss_nil))))))
      (pss_one (ps_ret pe_bl)))))), ?_⟩)
  · obtain ⟨_, _, _, _, _, _, _, rfl, _⟩ := h; rfl
  · obtain ⟨m, oa, wa, rows, f, g, person, rfl, hm, n1, ho, hw, ft, hp0, hpl, hrl, hrx, qt, qf⟩ := h
    refine fun ca hca => ⟨_, rfl, sz1, fun wl hwl => ?_⟩
    have hm0 := hm
    obtain ⟨dx, ra, em, hrw⟩ := id hm0
    have cw : ca ≠ wl := ne_of_none upd_same hwl
    have hwl0 : H wl = none := by rw [upd_ne cw.symm] at hwl; exact hwl
    have coa : oa ≠ ca := by obtain ⟨k, e, _⟩ := ho; exact ne_of_none e hca
    have cwa : wa ≠ ca := by obtain ⟨k, e, _⟩ := hw; exact ne_of_none e hca
    have grow : ∀ (H1 : Hp) (a : Addr) (o : HO), H a = none → Same H H1 → Same H (upd H1 a o) := fun H1 a o ha s b u e => by
      rw [upd_ne (ne_of_none e ha)]; exact s b u e
    refine ⟨fun μ σ H1 => ∃ (cm : List (Nat × Nat)) (done wait : List Nat) (x4 x5 : Option V), σ = [some (.ref m), some (iV person), some (.ref ca), some (.ref wl), x4, x5] ∧ Same H H1 ∧ Dk H1 ca (look cm) ∧ H1 wl = some (.lst (wait.map iV)) ∧ Seek rows f g person cm done wait ∧
      (∀ e ∈ cm, e.1 < 64 ∧ e.2 < 64) ∧ (∀ p ∈ wait, p < rows.length) ∧ μ = 66 - done.length, ⟨66, [], [], [person], _, _, rfl, Same.trans (Same.new hca) (Same.new hwl), ?_, upd_same, Seek.start, fun e h => (nomatch h), fun p h => by rw [List.mem_singleton.mp h]; exact hpl, rfl⟩, ?_⟩
    · refine (Dk.nil (H := upd H ca (.dK [])) upd_same).to fun kvs e => ?_
      rw [upd_ne cw]; exact e
    rintro μ σ H1 ⟨cm, done, wait, x4, x5, rfl, sm, dc, ew, S, hb, hwt, rfl⟩
    have hcl : cm.length ≤ 64 := by
      have := nodup_len S.came.nd (k := List.range 64) (fun x hx => by obtain ⟨e, he, rfl⟩ := List.mem_map.mp hx; exact List.mem_range.mpr (hb e he).1)
      rwa [List.length_map, List.length_range] at this
    have hdl : done.length + wait.length ≤ 65 := by
      have := congrArg List.length S.reach
      rw [List.length_append, List.length_cons, List.length_map] at this
      omega
    refine ⟨_, rfl, _, _, rfl, .inl ⟨_, SqL.of ew, rfl⟩, _, _, rfl, rfl, decide (0 < wait.length), ?_, ?_⟩
    · rw [List.length_map]
      exact congrArg V.bl (decide_eq_decide.mpr ⟨fun h => by omega, fun h => by omega⟩)
    cases wait with
    | nil => exact iteF (qf H1 sm (S.fail ft hp0 hpl))
    | cons here wait =>
      have hdn : done.length + 1 ≤ 65 := by rw [List.length_cons] at hdl; omega
      have hhl : here < rows.length := hwt here List.mem_cons_self
      have hrow : rows[here]? = some rows[here] := List.getElem?_eq_getElem hhl
      generalize rows[here] = r at hrow
      obtain ⟨hr64, hx64⟩ := hrx r (List.mem_of_getElem? hrow)
      refine iteT ⟨fun σ' H' => _, fun σ' H' h => h, ?_⟩
      refine ⟨_, rfl, .inl ⟨rfl, _, SqL.of ew⟩, wl, _, 0, 0, iV here, rfl, rfl, ew, by decide, by decide, seqIdx (i := 0) (by rw [List.length_map, List.length_cons]; omega), rfl, ?_⟩
      have sm2 := grow H1 wl (.lst (((here :: wait).map iV).eraseIdx 0)) hwl0 sm
      obtain ⟨vs, pr, hra, hvi, hpr⟩ := (hrw.same sm2).at hrow
      refine ⟨_, rfl, m, _, dx, _, _, rfl, sm2 _ _ em, T.c_Matching, T.n_Matching_rows, rfl, _, rfl, ra, vs, _, _, rfl, rfl, SqT.of hra, atI_nat hvi, pr, rfl, ⟨_, SqT.of hpr⟩, ?_⟩
      refine for_tup (xs := r.map iV) (fun i σ H2 => ∃ (cm : List (Nat × Nat)) (wait : List Nat) (x5 : Option V), σ = [some (.ref m), some (iV person), some (.ref ca), some (.ref wl), some (iV here), x5] ∧ Same H H2 ∧ H2 pr = some (.tup (r.map iV)) ∧ Dk H2 ca (look cm) ∧ H2 wl = some (.lst (wait.map iV)) ∧
        Seek rows f g person cm done (here :: wait) ∧ (∀ e ∈ cm, e.1 < 64 ∧ e.2 < 64) ∧ (∀ p ∈ wait, p < rows.length) ∧ ∀ x ∈ r.take i, x ∈ cm.map (·.1)) ?_ (fun i σ H2 _ ⟨_, _, _, _, _, e, _⟩ => SqT.of e) ?_ ?_
      · refine ⟨cm, wait, _, rfl, sm2, hpr, dc.to fun kvs e => by rw [upd_ne cw]; exact e, upd_same, S, hb, fun p h => hwt p (List.mem_cons_of_mem _ h), fun x h => (nomatch h)⟩
      · rintro i v σ H2 hv ⟨cm, wait, x5, rfl, sm3, epr, dc3, ew3, S3, hb3, hwt3, hall⟩
        obtain ⟨x, hx, rfl⟩ := map_at hv
        have hxr := List.mem_of_getElem? hx
        have hcl3 : cm.length ≤ 64 := by
          have := nodup_len S3.came.nd (k := List.range 64) (fun x hx => by obtain ⟨e, he, rfl⟩ := List.mem_map.mp hx; exact List.mem_range.mpr (hb3 e he).1)
          rwa [List.length_map, List.length_range] at this
        refine ⟨_, rfl, _, rfl, ca, _, rfl, dc3.get x, !((look cm x).map iV).isSome, rfl, ?_⟩
        cases hlx : look cm x with
        | some h0 =>
          refine iteF ⟨cm, wait, _, rfl, sm3, epr, dc3, ew3, S3, hb3, hwt3, fun y hy => ?_⟩
          rw [take_snoc hx] at hy
          rcases List.mem_append.mp hy with z | z
          · exact hall y z
          · rw [List.mem_singleton.mp z]
            obtain ⟨j, hj⟩ := look_some hlx
            exact List.mem_map.mpr ⟨_, List.mem_of_getElem? hj, rfl⟩
        | none =>
          have hxn := look_none.mp hlx
          obtain ⟨o1, p1, d1⟩ := dc3.put (hx64 x hxr) here
          have C2 := S3.came_add ft hxn hrow hxr
          have dc4 : Dk (upd H2 ca o1) ca (look (cm ++ [(x, here)])) := by
            have e : look (cm ++ [(x, here)]) = setF (look cm) x here := funext fun y => look_snoc cm x here y hxn
            rw [e]; exact d1
          have sm4 := grow H2 ca o1 hca sm3
          have ew4 : upd H2 ca o1 wl = some (.lst (wait.map iV)) := by rw [upd_ne cw.symm]; exact ew3
          have epr4 : upd H2 ca o1 pr = some (.tup (r.map iV)) := by
            obtain ⟨k, e, _⟩ := dc3
            rw [upd_ne (ne_of epr e (fun z => nomatch z))]; exact epr
          have hb4 : ∀ e ∈ cm ++ [(x, here)], e.1 < 64 ∧ e.2 < 64 := fun e he => by
            rcases List.mem_append.mp he with z | z
            · exact hb3 e z
            · rw [List.mem_singleton.mp z]; exact ⟨hx64 x hxr, by show here < 64; omega⟩
          refine iteT ⟨_, rfl, _, rfl, _, rfl, ca, _, rfl, p1, ?_⟩
          refine ⟨_, rfl, _, rfl, m, _, dx, _, _, rfl, sm4 _ _ em, T.c_Matching, T.n_Matching_owner, rfl, wa, _, rfl, (hw.same sm4).get x, !((g x).map iV).isSome, rfl, ?_⟩
          cases hg : g x with
          | none =>
            refine iteT ⟨_, rfl, m, dx, _, rfl, sm4 _ _ em, rfl, _, rfl, _, rfl, _, rfl, m, oa, wa, ca, rows, f, g, cm ++ [(x, here)], cm.length, x, here, person, rfl, ⟨dx, ra, sm4 _ _ em, hrw.same sm4⟩, n1, coa.symm, cwa.symm, ho.same sm4, hw.same sm4, dc4, C2, Hand.start ft (by rw [List.getElem?_append_right (Nat.le_refl _), Nat.sub_self]; rfl) hg, hp0, by omega, hb4, fun H5 f' g' s5 a b c d => ?_⟩
            exact qt H5 f' g' (fun c u q1 q2 e => s5 c u q1 q2 (sm4 c u e)) a b c d
          | some p =>
            have S4 := S3.add ft hxn hrow hxr hg
            have hpp : p < rows.length := by
              obtain ⟨r', h1, _⟩ := ft.row _ _ ((ft.inv _ _).mp hg)
              exact (List.getElem?_eq_some_iff.mp h1).1
            have hwl4 : wait.length ≤ 64 := by
              have := congrArg List.length S3.reach
              rw [List.length_append, List.length_cons, List.length_cons, List.length_map] at this
              omega
            refine iteF ⟨_, rfl, .inl ⟨rfl, _, SqL.of ew4⟩, _, rfl, m, _, dx, _, _, rfl, sm4 _ _ em, T.c_Matching, T.n_Matching_owner, rfl, _, rfl, wa, iV p, rfl, by have := (hw.same sm4).get x; rw [hg] at this; exact this, wl, _, _, rfl, rfl, ew4, by rw [List.length_map]; exact small1000 (by omega), ?_⟩
            refine ⟨cm ++ [(x, here)], wait ++ [p], _, rfl, grow _ wl _ hwl0 sm4, by rw [upd_ne (ne_of epr4 ew4 (fun z => nomatch z))]; exact epr4, dc4.to fun kvs e => by rw [upd_ne cw]; exact e, by rw [upd_same, List.map_append]; rfl, S4, hb4, fun q hq => ?_, fun y hy => ?_⟩
            · rcases List.mem_append.mp hq with z | z
              · exact hwt3 q z
              · rw [List.mem_singleton.mp z]; exact hpp
            · rw [take_snoc hx] at hy
              rw [List.map_append]
              rcases List.mem_append.mp hy with z | z
              · exact List.mem_append_left _ (hall y z)
              · rw [List.mem_singleton.mp z]; exact List.mem_append_right _ (by simp)
      · rintro σ H2 ⟨cm, wait, x5, rfl, sm3, epr, dc3, ew3, S3, hb3, hwt3, hall⟩
        rw [List.length_map, List.take_length] at hall
        refine ⟨66 - (done ++ [here]).length, ?_, cm, done ++ [here], wait, _, _, rfl, sm3, dc3, ew3, S3.next fun r' hr' => ?_, hb3, hwt3, rfl⟩
        · rw [List.length_append]
          show 66 - (done.length + 1) < 66 - done.length
          omega
        · rw [hrow] at hr'; cases hr'; exact hall
end
end Fo
end
section
set_option Elab.async false
set_option linter.all false
set_option maxRecDepth 100000
set_option maxHeartbeats 4000000
namespace Fo
open PySem PySem.Spec PyProof.Rows L2
def Sml (rows : List (List Nat)) : Prop := rows.length ≤ 64 ∧ ∀ r ∈ rows, r.length ≤ 64 ∧ ∀ x ∈ r, x < 64
def spMatInit (K : PySem.W.Frag) : Sp := fun vs H Q _ => ∃ (m dx ra : Addr) (rows : List (List Nat)), vs = [.ref m, .ref ra] ∧ H m = some (.ins (He.ga K "Matching") dx []) ∧ Rows H ra rows ∧ Sml rows ∧
  ∀ H' dx' fs l la, SmX m H H' → H' m = some (.ins (He.ga K "Matching") dx' fs) → fs.lookup ("left" : PySem.Str) = some (.ref l) → H' l = some (.lst la) → (la = [] ↔ Deal rows) → la.length ≤ 64 → Q .non H'
def spCan : Sp := fun vs H Q _ => ∃ (ra : Addr) (rows : List (List Nat)), vs = [.ref ra] ∧ Rows H ra rows ∧ Sml rows ∧ ∀ H' b, Same H H' → (b = true ↔ Deal rows) → Q (.bl b) H'
def spStuck (K : PySem.W.Frag) : Sp := fun vs H Q E => ∃ (t : Addr) (rows : List (List Nat)), vs = [.ref t] ∧ Tab K H t rows ∧ Sml rows ∧ (∀ H', Same H H' → Deal rows → Q .non H') ∧ (∀ H', Same H H' → ¬ Deal rows → E (.ref (He.ga K "Stuck")) none H')
section
variable {P : Program} {w : World} {K : PySem.W.Frag} {mg : Str → Option Value} {base : Heap}
theorem D_Matching_init (T : Hd K mg) : Cn P w K mg base CX0 3 "Matching" (spMatInit K) := by
  have D_Matching_seat := fun {P w base} => D_Matching_seat (P := P) (w := w) (base := base) T
  obtain ⟨fd, F⟩ := T.d_Matching_init
  refine ⟨T.g_Matching, T.mk_Matching, fd, ["self", "rows"], ?_, FunD.bindsN F fun _ _ _ _ _ _ us hl => match us, hl with | [_, _], _ => rfl⟩
  refine F.ok sc_Matching_init (fun vs H Q E h => ?_) (fun cdv A outer s H vs Q E hr h => ⟨_, PSs.nox (have hu := hu_of hr; (pss_cons (ps_fld (pv 0) (pv 1) rfl)
      (pss_cons (ps_fld (pv 0) pe_dnewK rfl)
      (pss_cons (ps_fld (pv 0) pe_dnewK rfl)
      (pss_one (ps_fld (pv 0) (pe_lc (own := [("person", 2)]) rfl sc_Matching_init.nd (pi_range1 rfl T.f_range (pa_cons (pe_callB call_len rfl T.f_len bt_len (pa_cons (pv 1) pa_nil)) pa_nil)) (blkOk_by (own := [("person", 2)]) (N := n_Matching_init) (sc := defScope s_Matching_init) (by decide +kernel)) (fun _ _ _ _ _ => (pg_name (i := 2) sc_Matching_init.nd rfl (.inl rfl))) (fun _ _ _ _ _ => (pts_one (pt_not (pt_val (pe_mdK D_Matching_seat (hr.mono (by first | decide | omega)) pass0 (pv 0) (pa_cons (pv 2) pa_nil)))))) (fun _ _ _ _ _ => (pv 2))) rfl)))))), ?_⟩)
  · obtain ⟨_, _, _, _, rfl, _⟩ := h; rfl
  · obtain ⟨m, dx, ra, rows, rfl, em, hrw, ⟨hl, hrx⟩, q⟩ := h
    obtain ⟨rv, hra, hrl⟩ := hrw.len
    have n1 : ra ≠ m := ne_of hra em (fun z => nomatch z)
    refine ⟨_, rfl, _, rfl, m, _, dx, [], rfl, em, T.c_Matching, T.n_Matching_rows, by decide, ?_⟩
    refine fun oa hoa => ?_
    have mo : m ≠ oa := ne_of_none upd_same hoa
    have hoa0 : H oa = none := by rw [upd_ne mo.symm] at hoa; exact hoa
    refine ⟨_, rfl, m, _, dx, _, rfl, by rw [upd_ne mo]; exact upd_same, T.c_Matching, T.n_Matching_of, (by show _ < 1000; exact (by decide : 1 < 1000)), ?_⟩
    refine fun wa hwa => ?_
    have mw : m ≠ wa := ne_of_none upd_same hwa
    have ow : oa ≠ wa := ne_of_none (by rw [upd_ne mo.symm]; exact upd_same) hwa
    have hwa0 : H wa = none := by rw [upd_ne mw.symm, upd_ne ow.symm, upd_ne mw.symm] at hwa; exact hwa
    refine ⟨_, rfl, m, _, dx, _, rfl, by rw [upd_ne mw]; exact upd_same, T.c_Matching, T.n_Matching_owner, (by show _ < 1000; exact (by decide : 2 < 1000)), ?_⟩
    refine ⟨_, rfl, _, rv.length, rfl, .inr ⟨rv, SqT.of ?_, rfl⟩, ?_⟩
    · rw [upd_ne n1, upd_ne (ne_of_none hra hwa0), upd_ne n1, upd_ne (ne_of_none hra hoa0), upd_ne n1]; exact hra
    generalize eH : (upd (upd (upd (upd (upd H m _) oa (.dK [])) m _) wa (.dK [])) m _) = H1
    have sm1 : SmX m H H1 := by
      subst eH
      intro b u nb e
      rw [upd_ne nb, upd_ne (ne_of_none e hwa0), upd_ne nb, upd_ne (ne_of_none e hoa0), upd_ne nb]; exact e
    have hoa1 : H1 oa = some (.dK []) := by
      subst eH
      rw [upd_ne mo.symm, upd_ne ow, upd_ne mo.symm]; exact upd_same
    have hwa1 : H1 wa = some (.dK []) := by
      subst eH
      rw [upd_ne mw.symm]; exact upd_same
    have em1 : H1 m = some (.ins (He.ga K "Matching") dx [("rows", .ref ra), ("of", .ref oa), ("owner", .ref wa)]) := by
      subst eH
      exact upd_same
    clear eH
    have hrw1 : Rows H1 ra rows := hrw.x sm1 (fun xs z => by rw [em] at z; cases z)
    refine ⟨_, rfl, by omega, by omega, fun D hD => ?_⟩
    have Do : ¬ (D = oa ∨ D = wa) := fun z => by
      rcases z with rfl | rfl
      · rw [hD] at hoa1; cases hoa1
      · rw [hD] at hwa1; cases hwa1
    have Dm : D ≠ m := (ne_of_none em1 hD).symm
    refine lc_S (walk_rangeN (n := rv.length)) hD (fun b => b = oa ∨ b = wa) (fun i acc H => ∃ f g, Dk H oa f ∧ Dk H wa g ∧ Fit rows f g ∧ (∀ p, i ≤ p → f p = none) ∧ ((acc = [] ∧ ∀ p, p < i → f p ≠ none) ∨ (acc ≠ [] ∧ ¬ Deal rows))) Do (small1000 (by omega)) (fun _ _ _ _ _ => True.intro)
      (fun i acc H H' ys hd k r => ?_) ⟨fun _ => none, fun _ => none, Dk.nil (by rw [upd_ne (fun z => Do (.inl z.symm))]; exact hoa1), Dk.nil (by rw [upd_ne (fun z => Do (.inr z.symm))]; exact hwa1), ⟨fun x p => ⟨fun z => (nomatch z), fun z => (nomatch z)⟩, fun p x z => (nomatch z)⟩, fun _ _ => rfl, .inl ⟨rfl, fun p z => (nomatch z)⟩⟩ ?_ ?_
    · obtain ⟨f, g, a, b, c⟩ := r
      exact ⟨f, g, a.to fun kvs e => k _ _ (fun z => Do (.inl z.symm)) e, b.to fun kvs e => k _ _ (fun z => Do (.inr z.symm)) e, c⟩
    · rintro i v H2 H' acc Fin Skip hi hla k hacc ⟨f, g, df, dg, ft, hn, hs⟩ ⟨rfl, rfl⟩ fin skip
      have em2 := k m _ (fun z => by rcases z with rfl | rfl; exact mo rfl; exact mw rfl) em1
      have nt : ∀ b xs, H1 b = some (.tup xs) → ¬ (b = oa ∨ b = wa) := fun b xs e z => by
        rcases z with rfl | rfl
        · rw [hoa1] at e; cases e
        · rw [hwa1] at e; cases e
      refine ⟨rfl, _, rfl, m, dx, _, rfl, em2, rfl, _, rfl, m, oa, wa, rows, f, g, i, rfl, ⟨dx, ra, em2, hrw1.but (S := fun b => b = oa ∨ b = wa) k nt⟩, ow, df, dg, ft, hn i (Nat.le_refl _), by omega, hl, hrx, fun H3 f' g' s3 a b c d => ?_, fun H3 s3 hnd => ?_⟩
      · refine ⟨true, rfl, iteF (skip _ (fun b u nb e => s3 b u (fun z => nb (.inl z)) (fun z => nb (.inr z)) e) ⟨f', g', a, b, c, fun p hp => ?_, ?_⟩)⟩
        · have := d p
          rw [hn p (by omega), decide_eq_false (by omega : ¬ p = i)] at this
          cases z : f' p with
          | none => rfl
          | some _ => rw [z] at this; cases this
        · rcases hs with ⟨e, hs⟩ | hs
          · refine .inl ⟨e, fun p hp z => ?_⟩
            have := d p
            rw [z] at this
            by_cases q : p = i
            · rw [decide_eq_true q, Bool.or_true] at this; cases this
            · rw [decide_eq_false q, Bool.or_false] at this
              have h1 := hs p (by omega)
              cases y : f p with
              | none => exact h1 y
              | some _ => rw [y] at this; cases this
          · exact .inr hs
      · refine ⟨false, rfl, iteT ⟨_, rfl, fin _ _ (fun b u _ e => s3 b u e) ⟨f, g, df.same s3, dg.same s3, ft, fun p hp => hn p (by omega), .inr ⟨by simp, hnd⟩⟩⟩⟩
    · rintro H2 acc k hla hacc ⟨f, g, df, dg, ft, hn, hs⟩
      have em2 := k m _ (fun z => by rcases z with rfl | rfl; exact mo rfl; exact mw rfl) em1
      refine ⟨_, rfl, m, _, dx, _, rfl, em2, T.c_Matching, T.n_Matching_left, (by show _ < 1000; exact (by decide : 3 < 1000)), ?_⟩
      refine q _ dx _ D acc (fun b u nb e => ?_) upd_same rfl (by rw [upd_ne Dm]; exact hacc) ?_ (by omega)
      · rw [upd_ne nb]
        have e1 := sm1 b u nb e
        exact k b u (fun z => by rcases z with rfl | rfl; (rw [hoa0] at e; cases e); (rw [hwa0] at e; cases e)) e1
      · rcases hs with ⟨e, hs⟩ | ⟨e, hs⟩
        · exact ⟨fun _ => ft.deal fun p hp => hs p (by omega), fun _ => e⟩
        · exact ⟨fun z => absurd z e, fun z => absurd z hs⟩
theorem D_can_be_dealt (T : Hd K mg) : Fn P w K mg base CX0 5 "can_be_dealt" spCan := by
  have D_Matching_init := fun {P w base} => D_Matching_init (P := P) (w := w) (base := base) T
  obtain ⟨fd, F⟩ := T.d_can_be_dealt
  refine ⟨T.g_can_be_dealt, T.p_can_be_dealt, fd, ["rows"], ?_, FunD.bindsN F fun _ _ _ _ _ _ us hl => match us, hl with | [_], _ => rfl⟩
  refine F.ok sc_can_be_dealt (fun vs H Q E h => ?_) (fun cdv A outer s H vs Q E hr h => ⟨_, PSs.nox (pss_one (ps_ret (pe_cmpR op_eq (pe_callB call_len rfl T.f_len bt_len (pa_cons (pe_fld (pe_mkc D_Matching_init (hr.mono (by first | decide | omega)) rfl pass0 (pa_cons (pv 0) pa_nil)) rfl) pa_nil)) pe_int (nomark _)))), ?_⟩)
  · obtain ⟨_, _, rfl, _⟩ := h; rfl
  · obtain ⟨ra, rows, rfl, hrw, hs, q⟩ := h
    refine ⟨_, rfl, fun m dx hm hdx hne => ?_⟩
    refine ⟨m, dx, ra, rows, rfl, upd_same, hrw.same (fun b u e => by rw [upd_ne (ne_of_none e hm), upd_ne (ne_of_none e hdx)]; exact e), hs, fun H' dx' fs l la sx e1 e2 e3 hd hz => ⟨rfl, ?_⟩⟩
    have sm := made_same hm hdx sx
    refine ⟨m, _, dx', fs, _, rfl, e1, T.c_Matching, T.n_Matching_left, e2, _, _, rfl, .inl ⟨la, SqL.of e3, rfl⟩, rfl, ?_⟩
    have : decide (V.int ((la.length : Nat) : Int) = V.int 0) = decide (la = []) := decide_eq_decide.mpr ⟨fun z => by injection z with z; exact List.eq_nil_of_length_eq_zero (by omega), fun z => by rw [z]; rfl⟩
    rw [this]
    exact q H' _ sm ⟨fun z => hd.mp (of_decide_eq_true z), fun z => decide_eq_true (hd.mpr z)⟩
theorem D_check_stuck (T : Hd K mg) (TX : Hx K mg) : Fn P w K mg base (L2N.CX P w) 6 "check_stuck" (spStuck K) := by
  have D_can_be_dealt := fun {P w base} => D_can_be_dealt (P := P) (w := w) (base := base) T
  obtain ⟨fd, F⟩ := T.d_check_stuck
  refine ⟨T.g_check_stuck, T.p_check_stuck, fd, ["table"], ?_, FunD.bindsN F fun _ _ _ _ _ _ us hl => match us, hl with | [_], _ => rfl⟩
  refine F.ok sc_check_stuck (fun vs H Q E h => ?_) (fun cdv A outer s H vs Q E hr h => ⟨_, (pss_one (ps_if (pt_not (pt_val (pe_fn D_can_be_dealt (hr.mono (by first | decide | omega)) rfl pass0 (pa_cons (pe_fld (pv 0) rfl) pa_nil))))
        (pss_one (L2N.ps_raise rfl (L2N.takes_of rfl rfl rfl rfl) (pmk_own0 TX.x_Stuck rfl)))
        pss_nil)), ?_⟩)
  · obtain ⟨_, _, rfl, _⟩ := h; rfl
  · obtain ⟨t, rows, rfl, ht, hs, q1, q2⟩ := h
    obtain ⟨C, dx, ra, g1, hC, nr, ns, hrw⟩ := ht.rd T
    refine ⟨_, rfl, t, C, dx, _, _, rfl, g1, hC, nr, rfl, ra, rows, rfl, hrw, hs, fun H' b sm hb => ?_⟩
    cases b with
    | true => exact ⟨true, rfl, iteF (q1 H' sm (hb.mp rfl))⟩
    | false => exact ⟨false, rfl, iteT (q2 H' sm (fun z => Bool.noConfusion (hb.mpr z)))⟩
end
end Fo
end
section
set_option Elab.async false
set_option linter.all false
set_option maxRecDepth 100000
set_option maxHeartbeats 8000000
namespace Fo
open PySem PySem.Spec PyProof.Rows L2
theorem kn_put {H : Hp} {xs : Ent} {k : Stg} {b : Addr} {v : V} (h : KN H xs) (hb : H b = some (.tup (k.map oV))) : KN H (putN xs k b v) := by
  intro x hx
  unfold putN at hx
  split at hx
  · obtain ⟨y, hy, rfl⟩ := List.mem_map.mp hx
    have := h y hy
    by_cases z : y.1 = k
    · rw [if_pos z]; exact this
    · rw [if_neg z]; exact this
  · rcases List.mem_append.mp hx with z | z
    · exact h x z
    · rw [List.mem_singleton.mp z]; exact hb
def spManyC (K : PySem.W.Frag) : Sp := fun vs H Q E => ∃ a b : Int, vs = [.int a, .int b] ∧ (a ≤ b → Q .non H) ∧ (b < a → ∀ H' d, Same H H' → H' d = some (.xd [("most", .int b)]) → E (.ref (He.ga K "TooMany")) (some d) H')
def spEven (K : PySem.W.Frag) : Sp := fun vs H Q E => ∃ (tb : Addr) (rows : List (List Nat)) (x : V), vs = [.ref tb, x] ∧ Tab K H tb rows ∧ rows.length ≤ 12 ∧ Sml rows ∧
  ((∃ t, TurnAt H x rows.length t ∧ RowsOk rows ∧ 0 < rows.length ∧ 0 < cnt rows (whole rows.length) ∧
      ∀ H', Same H H' → Q (if lsd (t.map (rowOf rows)) (whole rows.length) ≤ 5000 then iV (lsd (t.map (rowOf rows)) (whole rows.length)) else .non) H') ∨
    (NoAll H x rows.length ∧ ∀ H', Same H H' → E (.ref (He.ga K "NoTurn")) none H') ∨
    (∃ t, TurnAt H x rows.length t ∧ ¬ Deal rows ∧ ∀ H', Same H H' → E (.ref (He.ga K "Stuck")) none H') ∨
    (∃ t, TurnAt H x rows.length t ∧ Deal rows ∧ 6 < rows.length ∧ ∀ H' d, Same H H' → H' d = some (.xd [("most", .int 6)]) → E (.ref (He.ga K "TooMany")) (some d) H'))
section
variable {P : Program} {w : World} {K : PySem.W.Frag} {mg : Str → Option Value} {base : Heap}
theorem D_even_sides (T : Hd K mg) (TX : Hx K mg) (DM : ∀ {w : World} {base : Heap}, Fn P w K mg base (L2N.CX P w) 3 "check_many" (spManyC K)) : Fn P w K mg base (L2N.CX P w) 18 "even_sides" (spEven K) := by
  have D_check_turn := fun {P w base} => D_check_turn (P := P) (w := w) (base := base) T TX
  have D_check_stuck := fun {P w base} => D_check_stuck (P := P) (w := w) (base := base) T TX
  have D_nothing_drawn := fun {P w base} => D_nothing_drawn (P := P) (w := w) (base := base) T
  have D_left_of := fun {P w base} => D_left_of (P := P) (w := w) (base := base) T
  have D_opens := fun {P w base} => D_opens (P := P) (w := w) (base := base) T
  have D_made := fun {P w base} => D_made (P := P) (w := w) (base := base) T
  have D_common_divisor := fun {P w base} => D_common_divisor (P := P) (w := w) (base := base) T
  have D_after_draw := fun {P w base} => D_after_draw (P := P) (w := w) (base := base) T
  have D_Counter_init := fun {P w base} => D_Counter_init (P := P) (w := w) (base := base) T
  obtain ⟨fd, F⟩ := T.d_even_sides
  refine ⟨T.g_even_sides, T.p_even_sides, fd, ["table", "turn"], ?_, FunD.bindsN F fun _ _ _ _ _ _ us hl => match us, hl with | [_, _], _ => rfl⟩
  refine F.ok sc_even_sides (fun vs H Q E h => ?_) (fun cdv A outer s H vs Q E hr h => ⟨_, (have hu := hu_of hr; (pss_cons (ps_expr (pe_fnS D_check_turn (hr.mono (by first | decide | omega)) rfl (fun σ => L2N.passAt (L2N.takes_of rfl rfl rfl rfl) σ) (pa_cons (pv 0) (pa_cons (pv 1) pa_nil))))
      (pss_cons (ps_expr (pe_fnS D_check_stuck (hr.mono (by first | decide | omega)) rfl (fun σ => L2N.passAt (L2N.takes_of rfl rfl rfl rfl) σ) (pa_cons (pv 0) pa_nil)))
      (pss_cons (ps_expr (pe_fnS DM (hr.mono (by first | decide | omega)) rfl (fun σ => L2N.passAt (L2N.takes_of rfl rfl rfl rfl) σ) (pa_cons (pe_fld (pv 0) rfl) (pa_cons (pe_gc rfl T.k_MOST_PEOPLE_strangers) pa_nil))))
      (PSs.nox (pss_cons (ps_set (i := 2) sc_even_sides.nd rfl (.inl rfl) (pe_mkc D_Counter_init (hr.mono (by first | decide | omega)) rfl pass0 (pa_cons (pe_fld (pv 0) rfl) pa_nil)))
      (pss_cons (ps_set (i := 3) sc_even_sides.nd rfl (.inl rfl) (pe_dispN hu (pe_fn D_nothing_drawn (hr.mono (by decide)) rfl pass0 (pa_cons (pv 0) pa_nil)) pe_bl))
      (pss_cons (ps_set (i := 4) sc_even_sides.nd rfl (.inl rfl) pe_int)
      (pss_cons (ps_for PassesOwn.never rfl (pi_tup (pv 1)) (pg_name (i := 5) sc_even_sides.nd rfl (.inl rfl))
        (pss_cons (ps_set (i := 6) sc_even_sides.nd rfl (.inl rfl) pe_dnewN)
        (pss_cons (ps_for PassesOwn.never rfl (pi_nk (pv 3)) (pg_name (i := 7) sc_even_sides.nd rfl (.inl rfl))
          (pss_cons (ps_asg (pe_fn D_left_of (hr.mono (by first | decide | omega)) rfl pass0 (pa_cons (pv 7) pa_nil)) (pg_tup rfl (pgs_cons (pg_name (i := 8) sc_even_sides.nd rfl (.inl rfl)) (pgs_cons (pg_name (i := 9) sc_even_sides.nd rfl (.inl rfl)) pgs_nil))))
          (pss_cons (ps_set (i := 10) sc_even_sides.nd rfl (.inl rfl) (pe_fn D_opens (hr.mono (by first | decide | omega)) rfl pass0 (pa_cons (pv 2) (pa_cons (pv 8) (pa_cons (pv 9) (pa_cons (pv 5) pa_nil))))))
          (pss_cons (ps_set (i := 11) sc_even_sides.nd rfl (.inl rfl) (pe_callB (cr_sum rfl) rfl T.f_sum bt_sum (pa_cons (pe_lc (own := [("thing", 12), ("many", 13)]) rfl sc_even_sides.nd (pi_list (pv 10)) (blkOk_by (own := [("thing", 12), ("many", 13)]) (N := n_even_sides) (sc := defScope s_even_sides) (by decide +kernel)) (fun _ _ _ _ _ => (pg_tupK (K := K) (n := 2) rfl (pgs_cons (pg_name (i := 12) sc_even_sides.nd rfl (.inl rfl)) (pgs_cons (pg_name (i := 13) sc_even_sides.nd rfl (.inl rfl)) pgs_nil)))) (fun _ _ _ _ _ => pts_nil) (fun _ _ _ _ _ => (pv 13))) pa_nil)))
          (pss_one (ps_for PassesOwn.never rfl (pi_list (pv 10)) (pg_tup rfl (pgs_cons (pg_name (i := 12) sc_even_sides.nd rfl (.inl rfl)) (pgs_cons (pg_name (i := 13) sc_even_sides.nd rfl (.inl rfl)) pgs_nil)))
            (pss_cons (ps_set (i := 14) sc_even_sides.nd rfl (.inl rfl) (pe_ix ix_tup (pe_fn D_made (hr.mono (by first | decide | omega)) rfl pass0 (pa_cons (pv 13) (pa_cons (pv 11) pa_nil))) pe_int (fun _ _ => rfl)))
            (pss_cons (ps_set (i := 4) sc_even_sides.nd rfl (.inl rfl) (pe_op op_fdiv (pe_op op_mul (pv 4) (pv 14)) (pe_fn D_common_divisor (hr.mono (by first | decide | omega)) rfl pass0 (pa_cons (pv 4) (pa_cons (pv 14) pa_nil)))))
            (pss_one (ps_dputN hu (pv 6) (pe_fn D_after_draw (hr.mono (by first | decide | omega)) rfl pass0 (pa_cons (pv 7) (pa_cons (pv 5) (pa_cons (pv 12) pa_nil)))) pe_bl rfl))))))))))
        (pss_one (ps_set (i := 3) sc_even_sides.nd rfl (.inl rfl) (pv 6))))))
      (pss_one (ps_ret (pe_ifExp (pt_cmpR op_le (pv 4) (pe_gc rfl T.k_MOST_EVEN) (nomark _)) (pv 4) pe_non)))))))))))), ?_⟩)
  · obtain ⟨_, _, _, rfl, _⟩ := h; rfl
  · obtain ⟨tb, rows, x, rfl, htb, h12, hsm, h⟩ := h
    have common : ∀ t a, x = .ref a → H a = some (.tup (t.map iV)) → IsTurn rows.length t → TurnAt H x rows.length t := fun t a e1 e2 e3 => ⟨a, e1, e2, e3⟩
    rcases h with ⟨t, ⟨a, rfl, ha, htn⟩, ro, hn0, hc0, q⟩ | ⟨hno, q⟩ | ⟨t, htt, hnd, q⟩ | ⟨t, htt, hde, h6, q⟩
    · have hn6 := ro.len
      have hde : Deal rows := (deal_cnt ro.lt).mpr hc0
      refine ⟨_, rfl, _, rfl, tb, rows, _, rfl, htb, h12, .inl ⟨t, ⟨a, rfl, ha, htn⟩, fun H1 s1 => ?_⟩⟩
      refine ⟨_, rfl, tb, rows, rfl, htb.same s1, hsm, fun H2 s2 _ => ?_, fun H2 s2 z => absurd hde z⟩
      obtain ⟨C, dx, ra, g1, hC, nr, ns, hrw⟩ := ((htb.same s1).same s2).rd T
      refine ⟨_, rfl, tb, C, dx, _, _, rfl, g1, hC, ns, rfl, _, _, rfl, fun _ => ?_, fun z => absurd z (by omega)⟩
      have s02 := Same.trans s1 s2
      refine ⟨_, rfl, tb, C, dx, _, _, rfl, g1, hC, nr, rfl, fun c dc hcn hdc hne => ?_⟩
      refine ⟨c, dc, ra, rows, rfl, upd_same, hrw.same (fun b u e => by rw [upd_ne (ne_of_none e hcn), upd_ne (ne_of_none e hdc)]; exact e), hn6, fun H3 da hda sx hctr => ⟨rfl, ?_⟩⟩
      have s03 := Same.trans s02 (made_same hcn hdc sx)
      have hda0 : H da = none := by
        rcases hq : H da with _ | u
        · rfl
        · have e2 := s02 _ _ hq
          rw [upd_ne (ne_of_none e2 hcn), upd_ne (ne_of_none e2 hdc), e2] at hda; cases hda
      have ha3 := s03 _ _ ha
      have htb3 := htb.same s03
      clear sx hda hne hdc hcn hrw g1
      refine fun la hla => ?_
      have hla0 : H la = none := by
        rcases hq : H la with _ | u
        · rfl
        · rw [s03 _ _ hq] at hla; cases hla
      refine ⟨_, rfl, tb, rows, rfl, htb3.same (Same.new hla), hn0, by omega, fun H4 kp s4 hkp => ?_⟩
      have hla4 := s4 la _ upd_same
      refine ⟨hla4, kp, _, rfl, hkp, trivial, fun ep0 => ?_⟩
      generalize eH5 : upd H4 la (DN _ _ la _ ep0) = H5
      have kl5 : ∀ b u, b ≠ la → H3 b = some u → H5 b = some u := fun b u nb e => by
        subst eH5
        rw [upd_ne nb]
        exact s4 _ _ (by rw [upd_ne nb]; exact e)
      have s05 : Same H H5 := fun b u e => kl5 b u (ne_of_none e hla0) (s03 _ _ e)
      have s35 : Same H3 H5 := fun b u e => kl5 b u (ne_of_none e hla) e
      have hctr5 := hctr.same s35
      have hla5 : H5 la = some (DN P w la [(List.replicate rows.length none, kp, .bl true)] ep0) := by subst eH5; exact upd_same
      have hkp5 : H5 kp = some (.tup ((List.replicate rows.length none : Stg).map oV)) := by
        subst eH5
        rw [upd_ne (ne_of hkp hla4 (fun z => nomatch z))]; exact hkp
      clear eH5
      clear kl5 s35 hla4 s4 hkp hla hctr ha3 htb3
      have hrl : ∀ r ∈ rows, r.length ≤ 6 := fun r hr => by
        have := nodup_len (ro.nd r hr) (k := List.range rows.length) (fun y hy => List.mem_range.mpr (ro.lt r hr y hy))
        rw [List.length_range] at this
        omega
      have hrowlen : ∀ p, (rowOf rows p).length ≤ 6 := fun p => by
        unfold rowOf
        rw [List.getD_eq_getElem?_getD]
        cases e : rows[p]? with
        | none => exact Nat.zero_le _
        | some r => exact hrl r (List.mem_of_getElem? e)
      have hcb : ∀ (i : Nat) (m : Nat), cnt ((t.drop i).map (rowOf rows)) m ≤ 46656 := fun i m => by
        have h1 := cnt_le (k := 6) (rs := (t.drop i).map (rowOf rows)) (m := m) (fun r hr => by obtain ⟨p, _, rfl⟩ := List.mem_map.mp hr; exact hrowlen p)
        rw [List.length_map, List.length_drop] at h1
        have h2 : 6 ^ (t.length - i) ≤ 6 ^ 6 := Nat.pow_le_pow_right (by decide) (by rw [turn_len htn]; omega)
        have : (6 : Nat) ^ 6 = 46656 := by decide
        omega
      have htl := turn_len htn
      refine ⟨_, rfl, a, rfl, ⟨_, SqT.of (s05 _ _ ha)⟩, ?_⟩
      refine for_tup (xs := t.map iV) (fun i σ H6 => ∃ (la : Addr) (xs : Ent) (ep fnd : Nat) (x5 x6 x7 x8 x9 x10 x11 x12 x13 x14 : Option V), σ = [some (.ref tb), some (.ref a), some (.ref c), some (.ref la), some (iV fnd), x5, x6, x7, x8, x9, x10, x11, x12, x13, x14] ∧ Same H H6 ∧ Ctr K H6 c da rows ∧ H6 la = some (DN P w la xs ep) ∧ KN H6 xs ∧
        (∀ st ∈ xs.map (·.1), Std t rows.length i st ∧ 0 < cnt ((t.drop i).map (rowOf rows)) (lm st)) ∧ xs.length ≤ 6 ^ i ∧ 0 < fnd ∧ Iv1 ((t.drop i).map (rowOf rows)) (fun k => Dv (t.map (rowOf rows)) (whole rows.length) k) fnd (xs.map (·.1))) ?_ ?_ ?_ ?_
      · refine ⟨la, _, ep0, 1, _, _, _, _, _, _, _, _, _, _, rfl, s05, hctr5, hla5, fun x hx => by rw [List.mem_singleton.mp hx]; exact hkp5, fun st hst => ?_, (show 1 ≤ 6 ^ 0 by decide), by decide, fun k => ?_⟩
        · have : st = List.replicate rows.length none := by simpa using hst
          subst this
          refine ⟨Std.start hn6 htn, ?_⟩
          rw [lm_start _ hn6, List.drop_zero]
          have : (t.map (rowOf rows)).Perm rows := by
            have h1 := htn.map (rowOf rows)
            rw [map_rowOf] at h1
            exact h1
          rw [cnt_perm this]; exact hc0
        · rw [List.drop_zero]
          constructor
          · rintro ⟨_, h⟩
            have := h (List.replicate rows.length none) (by simp)
            rw [lm_start _ hn6] at this
            exact this
          · intro h
            refine ⟨Nat.one_dvd _, fun st hst => ?_⟩
            have : st = List.replicate rows.length none := by simpa using hst
            subst this
            rw [lm_start _ hn6]; exact h
      · rintro i σ H6 _ ⟨la, xs, ep, fnd, x5, x6, x7, x8, x9, x10, x11, x12, x13, x14, rfl, s6, _⟩
        exact SqT.of (s6 _ _ ha)
      · rintro i v σ H6 hv ⟨la, xs, ep, fnd, x5, x6, x7, x8, x9, x10, x11, x12, x13, x14, rfl, s6, hc6, hl6, kn6, hst6, hxl, hf0, iv⟩
        obtain ⟨p, hp, rfl⟩ := map_at hv
        have hi6 : i < 6 := by have := (List.getElem?_eq_some_iff.mp hp).1; omega
        have hpn : p < rows.length := (turn_lt htn).mp (List.mem_of_getElem? hp)
        have hrow : rows[p]? = some rows[p] := List.getElem?_eq_getElem hpn
        generalize rows[p] = r at hrow
        have hrm := List.mem_of_getElem? hrow
        have hdr : (t.drop i).map (rowOf rows) = r :: (t.drop (i + 1)).map (rowOf rows) := by rw [drop_at hp, List.map_cons, rowOf_eq hrow]
        rw [hdr] at iv
        refine fun lb hlb => ?_
        have lab : la ≠ lb := ne_of_none hl6 hlb
        have hlb0 : H lb = none := by
          rcases hq : H lb with _ | u
          · rfl
          · rw [s6 _ _ hq] at hlb; cases hlb
        have sm7 := Same.new (o := DN P w lb [] 0) hlb
        refine ⟨_, rfl, la, xs, ep, rfl, sm7 _ _ hl6, ?_⟩
        refine for_it walk_nk (fun j σ H7 => ∃ (ys : Ent) (ep2 fnd : Nat) (x7 x8 x9 x10 x11 x12 x13 x14 : Option V), σ = [some (.ref tb), some (.ref a), some (.ref c), some (.ref la), some (iV fnd), some (iV p), some (.ref lb), x7, x8, x9, x10, x11, x12, x13, x14] ∧ Same H H7 ∧ Ctr K H7 c da rows ∧ H7 la = some (DN P w la xs ep) ∧ KN H7 xs ∧
          H7 lb = some (DN P w lb ys ep2) ∧ KN H7 ys ∧ (∀ st ∈ ys.map (·.1), Std t rows.length (i + 1) st ∧ 0 < cnt ((t.drop (i + 1)).map (rowOf rows)) (lm st)) ∧ ys.length ≤ 6 * j ∧ 0 < fnd ∧
          Iv2 r ((t.drop (i + 1)).map (rowOf rows)) (fun k => Dv (t.map (rowOf rows)) (whole rows.length) k) fnd ((xs.drop j).map (·.1)) (ys.map (·.1))) ?_ ?_ ?_ ?_
        · exact ⟨[], 0, fnd, _, _, _, _, _, _, _, _, rfl, Same.trans s6 sm7, hc6.same sm7, sm7 _ _ hl6, kn6.same sm7, upd_same, fun x h => (nomatch h), fun st h => (nomatch h), Nat.zero_le _, hf0, iv.two⟩
        · rintro j σ H7 _ ⟨ys, ep2, fnd, x7, x8, x9, x10, x11, x12, x13, x14, _, _, _, h, _⟩
          exact h
        · rintro j v σ H70 H7 hj ⟨ys, ep2, fnd, x7, x8, x9, x10, x11, x12, x13, x14, rfl, s7, hc7, hl7, kn7, hb7, kb7, hst7, hyl, hf7, iv7⟩ ⟨rfl, y, hy, rfl⟩
          have hym := List.mem_of_getElem? hy
          have hkey := kn7 y hym
          obtain ⟨S, hcS⟩ := hst6 y.1 (List.mem_map.mpr ⟨y, hym, rfl⟩)
          have hdy : (xs.drop j).map (·.1) = y.1 :: (xs.drop (j + 1)).map (·.1) := by
            obtain ⟨h1, h2⟩ := List.getElem?_eq_some_iff.mp hy
            rw [List.drop_eq_getElem_cons h1, h2, List.map_cons]
          rw [hdy] at iv7
          have hsl : y.1.length ≤ 6 := by rw [S.len]; exact hn6
          have hlm64 : lm y.1 < 64 := Nat.lt_of_lt_of_le (lm_lt hsl) (pow_le6 hsl)
          refine ⟨_, rfl, y.2.1, y.1, rfl, hkey, hsl, fun H8 tp htp0 s8 htp => ?_⟩
          refine ⟨tp, _, rfl, SqT.of htp, rfl, _, _, rfl, _, _, rfl, rfl, ?_⟩
          have hwb : (wm y.1).testBit p = true := by rw [wm_bit hsl]; exact decide_eq_true (S.at_ hp)
          have hwl := wm_lt hsl
          rw [S.len] at hwl
          have hbl : (bitsOf (wm y.1)).length = (bitsOf (lm y.1)).length := by rw [(S.wms hn6 htn).length_eq, S.lms, List.length_drop, htl]
          refine ⟨_, rfl, _, rfl, _, rfl, _, rfl, c, da, rows, r, wm y.1, lm y.1, p, rfl, hc7.same s8, ro, hwl, hlm64, hwb, hbl, hrow, fun H9 l hl0 s9 hc9 hpr => ?_⟩
          rw [S.opens rows hn6 htn hp r] at hpr
          obtain ⟨vs, hl9, tps⟩ := hpr
          have iv8 := iv7.three
          obtain ⟨dxc, rac, kvc, gc1, gc2, gc3, gc4⟩ := id (hc7.same s8)
          have ndt : ∀ xs, H8 da ≠ some (.tup xs) := fun xs z => by rw [gc3] at z; cases z
          have k79 : ∀ b u, b ≠ da → H7 b = some u → H9 b = some u := fun b u nb e => s9 b u nb (s8 _ _ e)
          have laD : la ≠ da := ne_of (s8 _ _ hl7) gc3 (fun z => nomatch z)
          have lbD : lb ≠ da := ne_of (s8 _ _ hb7) gc3 (fun z => nomatch z)
          have tD : ∀ b xs, H7 b = some (.tup xs) → b ≠ da := fun b xs e z => ndt xs (by rw [← z]; exact s8 _ _ e)
          have s09 : Same H H9 := fun b u e => k79 b u (ne_of_none e hda0) (s7 _ _ e)
          have hesl : (ops r ((t.drop (i + 1)).map (rowOf rows)) (lm y.1)).length ≤ 6 := by
            have h1 : (ops r ((t.drop (i + 1)).map (rowOf rows)) (lm y.1)).length ≤ (opn r (lm y.1)).length := by
              unfold ops
              have := List.length_filter_le (fun e : Nat × Nat => decide (0 < e.2)) ((opn r (lm y.1)).map fun x => (x, cnt ((t.drop (i + 1)).map (rowOf rows)) (lm y.1 - 2 ^ x)))
              rw [List.length_map] at this
              exact this
            have h2 : (opn r (lm y.1)).length ≤ r.length := List.length_filter_le _ _
            have := hrl r hrm
            omega
          have hvl : vs.length = (ops r ((t.drop (i + 1)).map (rowOf rows)) (lm y.1)).length := by rw [Paired.length tps, List.length_map]
          -- whole = sum([..])
          refine ⟨_, rfl, l, rfl, ⟨_, SqL.of hl9⟩, fun D hD => ?_⟩
          refine lc_same walk_list hD (fun q acc _ => acc = (((ops r ((t.drop (i + 1)).map (rowOf rows)) (lm y.1)).take q).map fun e => iV e.2)) (small1000 (by omega)) (fun H' k => SqL.of (k _ _ hl9)) (fun _ _ _ _ _ _ _ h => h) rfl ?_ ?_
          · rintro q v H10 H' acc Fin Skip hq hla k rr ⟨rfl, yy⟩ fin skip
            obtain ⟨tt, htt, pp, rfl, hpp⟩ := paired_get tps yy
            obtain ⟨e, he, rfl⟩ := map_at htt
            refine ⟨pp, _, rfl, SqT.of (k _ _ hpp), rfl, _, _, rfl, _, _, rfl, rfl, rfl, _, rfl, fin _ _ (Same.refl _) ?_⟩
            rw [rr, take_snoc he, List.map_append]; rfl
          · intro H10 acc k10 hla hacc rr
            rw [hvl, List.take_length] at rr
            have hsum : ((ops r ((t.drop (i + 1)).map (rowOf rows)) (lm y.1)).map fun e => ((e.2 : Nat) : Int)).sum = ((cnt (r :: (t.drop (i + 1)).map (rowOf rows)) (lm y.1) : Nat) : Int) := by
              rw [← sum_ops]
              generalize ops r ((t.drop (i + 1)).map (rowOf rows)) (lm y.1) = l
              induction l with
              | nil => rfl
              | cons z l ih => rw [List.map_cons, List.sum_cons, ih, List.map_cons, List.sum_cons, Int.natCast_add]
            rw [hdr] at hcS
            have hcle : cnt (r :: (t.drop (i + 1)).map (rowOf rows)) (lm y.1) ≤ 46656 := by rw [← hdr]; exact hcb i _
            refine ⟨D, (ops r ((t.drop (i + 1)).map (rowOf rows)) (lm y.1)).map fun e => ((e.2 : Nat) : Int), rfl, SqL.of (by rw [hacc, rr, List.map_map]; rfl), ?_⟩
            rw [hsum]
            generalize hcn : cnt (r :: (t.drop (i + 1)).map (rowOf rows)) (lm y.1) = cn at hcS hcle iv8
            refine ⟨_, rfl, l, rfl, ⟨_, SqL.of (k10 _ _ hl9)⟩, ?_⟩
            refine for_list (xs := vs) (fun e σ H11 => ∃ (ys : Ent) (ep2 fnd : Nat) (x12 x13 x14 : Option V), σ = [some (.ref tb), some (.ref a), some (.ref c), some (.ref la), some (iV fnd), some (iV p), some (.ref lb), some (.ref y.2.1), some (iV (wm y.1)), some (iV (lm y.1)), some (.ref l), some (iV cn), x12, x13, x14] ∧ Same H H11 ∧ Ctr K H11 c da rows ∧ H11 la = some (DN P w la xs ep) ∧ KN H11 xs ∧
              H11 lb = some (DN P w lb ys ep2) ∧ KN H11 ys ∧ H11 l = some (.lst vs) ∧ Tups H11 vs ((ops r ((t.drop (i + 1)).map (rowOf rows)) (lm y.1)).map fun e => [iV e.1, iV e.2]) ∧ (∀ st ∈ ys.map (·.1), Std t rows.length (i + 1) st ∧ 0 < cnt ((t.drop (i + 1)).map (rowOf rows)) (lm st)) ∧ ys.length ≤ 6 * j + e ∧ 0 < fnd ∧
              Iv3 r ((t.drop (i + 1)).map (rowOf rows)) (fun k => Dv (t.map (rowOf rows)) (whole rows.length) k) fnd ((ops r ((t.drop (i + 1)).map (rowOf rows)) (lm y.1)).drop e) cn (lm y.1) ((xs.drop (j + 1)).map (·.1)) (ys.map (·.1))) ?_ ?_ ?_ ?_
            · refine ⟨ys, ep2, fnd, _, _, _, rfl, Same.trans s09 k10, hc9.same k10, k10 _ _ (k79 _ _ laD hl7), kn7.keep (fun b xs e => k10 _ _ (k79 _ _ (tD b xs e) e)), k10 _ _ (k79 _ _ lbD hb7), kb7.keep (fun b xs e => k10 _ _ (k79 _ _ (tD b xs e) e)), k10 _ _ hl9, tps.same k10, hst7, by omega, hf7, iv8⟩
            · rintro e σ H11 _ ⟨ys, ep2, fnd, x12, x13, x14, _, _, _, _, _, _, _, h, _⟩
              exact SqL.of h
            · rintro e v σ H11 hv ⟨ys, ep2, fnd, x12, x13, x14, rfl, s11, hc11, hl11, kn11, hb11, kb11, hch, tps11, hst11, hyl, hf11, iv11⟩
              obtain ⟨tt, htt, pp, rfl, hpp⟩ := paired_get tps11 hv
              obtain ⟨⟨x, m⟩, he, rfl⟩ := map_at htt
              have hmem := List.mem_of_getElem? he
              obtain ⟨hxo, hm, hm0⟩ := mem_ops.mp hmem
              obtain ⟨hxr, hxb⟩ := mem_opn.mp hxo
              have hde : (ops r ((t.drop (i + 1)).map (rowOf rows)) (lm y.1)).drop e = (x, m) :: (ops r ((t.drop (i + 1)).map (rowOf rows)) (lm y.1)).drop (e + 1) := by
                obtain ⟨h1, h2⟩ := List.getElem?_eq_some_iff.mp he
                rw [List.drop_eq_getElem_cons h1, h2]
              rw [hde] at iv11
              have hel : e < 6 := by have := (List.getElem?_eq_some_iff.mp he).1; omega
              refine ⟨pp, _, rfl, SqT.of hpp, rfl, _, _, rfl, _, _, rfl, rfl, ?_⟩
              refine ⟨_, rfl, _, rfl, m, cn, rfl, by omega, by omega, fun H12 p12 hp12 s12 h12 => ?_⟩
              refine ⟨p12, _, 1, iV (redB m cn), rfl, rfl, SqT.of h12, rfl, ?_⟩
              have hden : redB m cn = den m cn := rfl
              have hdl : den m cn ≤ cn := den_le m cn
              have hdp : 0 < den m cn := den_pos (by omega)
              have hgp : 0 < Nat.gcd fnd (den m cn) := Nat.gcd_pos_of_pos_left _ hf11
              have hgl : Nat.gcd fnd (den m cn) ≤ den m cn := Nat.le_of_dvd hdp (Nat.gcd_dvd_right _ _)
              refine ⟨_, rfl, _, rfl, _, _, rfl, rfl, .inr ⟨by rw [hden]; omega, by rw [hden]; omega⟩, _, rfl, _, rfl, fnd, redB m cn, rfl, _, _, rfl, rfl, ⟨by rw [hden]; omega, by rw [hden]; omega⟩, ?_⟩
              have hlcm : V.int (((fnd : Nat) : Int) * ((redB m cn : Nat) : Int) / ((Nat.gcd fnd (redB m cn) : Nat) : Int)) = iV (Nat.lcm fnd (den m cn)) := by
                rw [hden, ← Int.natCast_mul, ← Int.natCast_ediv]; rfl
              have S1 := S.next hn6 htn hp hxb
              have hlm := lm_set hsl (S.at_ hp) hxb
              refine ⟨_, rfl, _, rfl, _, rfl, _, rfl, y.2.1, y.1, p, x, rfl, s12 _ _ (kn11 y hym), by rw [S.len]; exact hpn, by omega, fun H13 p13 s13 h13 => ?_⟩
              have s1113 := Same.trans s12 s13
              have hb13 := s1113 _ _ hb11
              have h6i : (6 : Nat) ^ i ≤ 6 ^ 5 := Nat.pow_le_pow_right (by decide) (by omega)
              have h65 : (6 : Nat) ^ 5 = 7776 := by decide
              refine ⟨lb, ys, ep2, p13, _, rfl, hb13, kb11.same s1113, rfl, h13, trivial, by rw [sizeLine_eq]; omega, fun ep' => ?_⟩
              have tl : ∀ b xs, H13 b = some (.tup xs) → b ≠ lb := fun b xs e => ne_of e hb13 (fun z => nomatch z)
              have keep : ∀ b u, b ≠ lb → H11 b = some u → upd H13 lb (DN P w lb (putN ys (y.1.set p (some x)) p13 (.bl true)) ep') b = some u := fun b u nb e => by rw [upd_ne nb]; exact s1113 _ _ e
              obtain ⟨dxq, raq, kvq, gq1, gq2, gq3, gq4⟩ := id (hc11.same s1113)
              refine ⟨putN ys (y.1.set p (some x)) p13 (.bl true), ep', Nat.lcm fnd (den m cn), some (iV x), some (iV m), some (iV (redB m cn)), ?_, fun b u e => keep b u (ne_of_none e hlb0) (s11 _ _ e), ?_, keep la _ lab hl11, kn11.keep (fun b xs e => keep b _ (tl b xs (s1113 _ _ e)) e), upd_same, ?_, ?_, ?_, fun st hst => ?_, ?_, ?_, ?_⟩
              · rw [← hlcm]; rfl
              · refine ⟨dxq, raq, kvq, by rw [upd_ne (ne_of gq1 hb13 (fun z => nomatch z))]; exact gq1, gq2.x (b := lb) (fun b u nb e => by rw [upd_ne nb]; exact e) (fun xs z => by rw [hb13] at z; cases z), by rw [upd_ne (ne_of gq3 hb13 (fun z => nomatch z))]; exact gq3, gq4⟩
              · exact kn_put ((kb11.same s1113).keep fun b xs e => by rw [upd_ne (tl b xs e)]; exact e) (by rw [upd_ne (tl _ _ h13)]; exact h13)
              · exact keep l _ (ne_of hch hb11 (fun z => nomatch z)) hch
              · exact (tps11.same s1113).x (a := lb) (fun b u nb e => by rw [upd_ne nb]; exact e) (fun xs z => by rw [hb13] at z; cases z)
              · rcases mem_putN.mp hst with rfl | hst
                · refine ⟨S1, ?_⟩
                  rw [hlm, ← hm]; exact hm0
                · exact hst11 st hst
              · have := putN_length ys (y.1.set p (some x)) p13 (.bl true)
                omega
              · exact Nat.lcm_pos hf11 hdp
              · exact iv11.step (fun s => mem_putN) hlm
            · rintro σ H11 ⟨ys, ep2, fnd, x12, x13, x14, rfl, s11, hc11, hl11, kn11, hb11, kb11, hch, tps11, hst11, hyl, hf11, iv11⟩
              rw [hvl, List.drop_length] at iv11
              refine ⟨ys, ep2, fnd, _, _, _, _, _, _, _, _, rfl, s11, hc11, hl11, kn11, hb11, kb11, hst11, by omega, hf11, iv11.two⟩
        · rintro σ H7 ⟨ys, ep2, fnd, x7, x8, x9, x10, x11, x12, x13, x14, rfl, s7, hc7, hl7, kn7, hb7, kb7, hst7, hyl, hf7, iv7⟩
          rw [List.drop_length] at iv7
          refine ⟨_, rfl, lb, ys, ep2, fnd, _, _, _, _, _, _, _, _, _, _, rfl, s7, hc7, hb7, kb7, hst7, ?_, hf7, iv7.one⟩
          rw [Nat.pow_succ]; omega
      · rintro σ H6 ⟨la, xs, ep, fnd, x5, x6, x7, x8, x9, x10, x11, x12, x13, x14, rfl, s6, hc6, hl6, kn6, hst6, hxl, hf0, iv⟩
        have hl : fnd = lsd (t.map (rowOf rows)) (whole rows.length) := by
          refine eq_of_dvd_iff fun k => ?_
          have ik := iv k
          rw [List.length_map, List.drop_length] at ik
          rw [lsd_dvd]
          exact ⟨fun h => ik.mp ⟨h, fun st _ => trivial⟩, fun h => (ik.mpr h).1⟩
        have qq := q H6 s6
        rw [← hl] at qq
        by_cases h5 : fnd ≤ 5000
        · rw [if_pos h5] at qq
          refine ⟨_, rfl, _, _, rfl, rfl, true, congrArg V.bl (decide_eq_true (by omega)), iteT ⟨_, rfl, qq⟩⟩
        · rw [if_neg h5] at qq
          refine ⟨_, rfl, _, _, rfl, rfl, false, congrArg V.bl (decide_eq_false (by omega)), iteF qq⟩
    · refine ⟨_, rfl, _, rfl, tb, rows, _, rfl, htb, h12, .inr ⟨hno, fun H1 s1 => q H1 s1⟩⟩
    · refine ⟨_, rfl, _, rfl, tb, rows, _, rfl, htb, h12, .inl ⟨t, htt, fun H1 s1 => ?_⟩⟩
      exact ⟨_, rfl, tb, rows, rfl, htb.same s1, hsm, fun H2 s2 z => absurd z hnd, fun H2 s2 z => q H2 (Same.trans s1 s2)⟩
    · refine ⟨_, rfl, _, rfl, tb, rows, _, rfl, htb, h12, .inl ⟨t, htt, fun H1 s1 => ?_⟩⟩
      refine ⟨_, rfl, tb, rows, rfl, htb.same s1, hsm, fun H2 s2 _ => ?_, fun H2 s2 z => absurd hde z⟩
      obtain ⟨C, dx, ra, g1, hC, nr, ns, hrw⟩ := ((htb.same s1).same s2).rd T
      exact ⟨_, rfl, tb, C, dx, _, _, rfl, g1, hC, ns, rfl, _, _, rfl, fun z => absurd z (by omega), fun _ H3 d s3 e => q H3 d (Same.trans s1 (Same.trans s2 s3)) e⟩
end
end Fo
end
section
set_option Elab.async false
set_option linter.all false
set_option maxRecDepth 100000
set_option maxHeartbeats 8000000
namespace Fo
open PySem PySem.Spec PyProof.Rows L2
/-- what stands at a key, (0, 1) where nothing stands -/
def Cur (H : Hp) (o : Option V) (a b : Nat) : Prop := match o with
  | some v => Fr H v a b
  | none => a = 0 ∧ b = 1
def spAddK : Sp := fun vs H Q _ => ∃ (f : Addr) (kvs : List (Key × V)) (k : Nat) (pt : V) (a b c d : Nat), vs = [.ref f, iV k, pt] ∧ H f = some (.dK kvs) ∧ Cur H (valV kvs (.inl ((k : Nat) : Int))) a b ∧ Fr H pt c d ∧ a ≤ 4294967296 ∧ b ≤ 4294967296 ∧ c ≤ 4294967296 ∧ 0 < b * d ∧ b * d < 1073741824 ∧ kvs.length ≤ 1000 ∧
  ∀ H' p, SmX f H H' → H' p = some (.tup [iV (redT (a * d + c * b) (b * d)), iV (redB (a * d + c * b) (b * d))]) → H' f = some (.dK (putK kvs (.inl ((k : Nat) : Int)) (.ref p))) → Q .non H'
def spAddN (P : Program) (w : World) : Sp := fun vs H Q _ => ∃ (f : Addr) (xs : Ent) (ep : Nat) (kb : Addr) (k : Stg) (pt : V) (a b c d : Nat), vs = [.ref f, .ref kb, pt] ∧ H f = some (DN P w f xs ep) ∧ KN H xs ∧ H kb = some (.tup (k.map oV)) ∧ Cur H (getN xs k) a b ∧ Fr H pt c d ∧ a ≤ 4294967296 ∧ b ≤ 4294967296 ∧ c ≤ 4294967296 ∧ 0 < b * d ∧ b * d < 1073741824 ∧ xs.length < sizeLine ∧
  ∀ H' p ep', SmX f H H' → H' p = some (.tup [iV (redT (a * d + c * b) (b * d)), iV (redB (a * d + c * b) (b * d))]) → H' f = some (DN P w f (putN xs k kb (.ref p)) ep') → Q .non H'
def spIsDeal (K : PySem.W.Frag) : Sp := fun vs H Q _ => ∃ (t p : Addr) (rows : List (List Nat)) (d : List Nat), vs = [.ref t, .ref p] ∧ Tab K H t rows ∧ rows.length ≤ 12 ∧ (∀ r ∈ rows, r.length ≤ 64) ∧ H p = some (.tup (d.map iV)) ∧ IsTurn rows.length d ∧ (∀ (i : Nat) (r : List Nat) (x : Nat), rows[i]? = some r → d[i]? = some x → x ∈ r) ∧ ∀ H', Same H H' → Q (.bl true) H'
section
variable {P : Program} {w : World} {K : PySem.W.Frag} {mg : Str → Option Value} {base : Heap}
theorem D_addedK (T : Hd K mg) : Fn P w K mg base CX0 4 "added" spAddK := by
  have D_plus := fun {P w base} => D_plus (P := P) (w := w) (base := base) T
  obtain ⟨fd, F⟩ := T.d_added
  refine ⟨T.g_added, T.p_added, fd, ["found", "key", "part"], ?_, FunD.bindsN F fun _ _ _ _ _ _ us hl => match us, hl with | [_, _, _], _ => rfl⟩
  refine F.ok sc_added (fun vs H Q E h => ?_) (fun cdv A outer s H vs Q E hr h => ⟨_, PSs.nox (have hu := hu_of hr; (pss_one (ps_dput hu (pv 0) (pv 1) (pe_fn D_plus (hr.mono (by first | decide | omega)) rfl pass0 (pa_cons (pe_dget2 hu (pv 0) (pv 1) (pe_tup (pa_cons pe_int (pa_cons pe_int pa_nil))) ⟨rfl, rfl, rfl, rfl⟩) (pa_cons (pv 2) pa_nil))) rfl))), ?_⟩)
  · obtain ⟨_, _, _, _, _, _, _, _, rfl, _⟩ := h; rfl
  · obtain ⟨f, kvs, k, pt, a, b, c, d, rfl, ef, hc, hp, b1, b2, b3, b4, b5, hl, q⟩ := h
    refine ⟨_, rfl, f, rfl, .inl ⟨kvs, .inl ef⟩, _, rfl, sz2, fun zp hzp => ⟨_, DGet.k (k := .inl ((k : Nat) : Int)) (by rw [upd_ne (ne_of_none ef hzp)]; exact ef), ?_⟩⟩
    have sm := Same.new (o := .tup [.int 0, .int 1]) hzp
    have hcur : Fr (upd H zp (.tup [.int 0, .int 1])) ((valV kvs (.inl ((k : Nat) : Int))).getD (.ref zp)) a b := by
      cases e : valV kvs (.inl ((k : Nat) : Int)) with
      | some v => rw [e] at hc; exact Fr.same hc sm
      | none =>
        rw [e] at hc
        obtain ⟨rfl, rfl⟩ := hc
        exact ⟨zp, rfl, upd_same⟩
    refine ⟨_, rfl, _, _, a, b, c, d, rfl, hcur, hp.same sm, b1, b2, b3, b4, b5, fun H1 p hp0 s1 h1 => ?_⟩
    have ef1 := Same.trans sm s1 _ _ ef
    refine ⟨_, rfl, _, rfl, f, _, rfl, DPut.k (k := .inl ((k : Nat) : Int)) ef1 (by rw [sizeLine_eq]; omega), ?_⟩
    refine q _ p (fun b u nb e => ?_) ?_ upd_same
    · rw [upd_ne nb]; exact Same.trans sm s1 _ _ e
    · rw [upd_ne (ne_of h1 ef1 (fun z => nomatch z))]; exact h1
theorem D_addedN (T : Hd K mg) : Fn P w K mg base CX0 4 "added" (spAddN P w) := by
  have D_plus := fun {P w base} => D_plus (P := P) (w := w) (base := base) T
  obtain ⟨fd, F⟩ := T.d_added
  refine ⟨T.g_added, T.p_added, fd, ["found", "key", "part"], ?_, FunD.bindsN F fun _ _ _ _ _ _ us hl => match us, hl with | [_, _, _], _ => rfl⟩
  refine F.ok sc_added (fun vs H Q E h => ?_) (fun cdv A outer s H vs Q E hr h => ⟨_, PSs.nox (have hu := hu_of hr; (pss_one (ps_dputN hu (pv 0) (pv 1) (pe_fn D_plus (hr.mono (by first | decide | omega)) rfl pass0 (pa_cons (pe_dgetN hu (pv 0) (pv 1) (pe_tup (pa_cons pe_int (pa_cons pe_int pa_nil))) ⟨rfl, rfl, rfl, rfl⟩) (pa_cons (pv 2) pa_nil))) rfl))), ?_⟩)
  · obtain ⟨_, _, _, _, _, _, _, _, _, _, rfl, _⟩ := h; rfl
  · obtain ⟨f, xs, ep, kb, k, pt, a, b, c, d, rfl, ef, kn, hk, hc, hp, b1, b2, b3, b4, b5, hl, q⟩ := h
    refine ⟨_, rfl, ⟨f, xs, ep, rfl, ef⟩, _, rfl, sz2, fun zp hzp => ?_⟩
    have sm := Same.new (o := .tup [.int 0, .int 1]) hzp
    refine ⟨f, xs, ep, kb, k, rfl, sm _ _ ef, kn.same sm, rfl, sm _ _ hk, ?_⟩
    have hcur : Fr (upd H zp (.tup [.int 0, .int 1])) ((getN xs k).getD (.ref zp)) a b := by
      cases e : getN xs k with
      | some v => rw [e] at hc; exact Fr.same hc sm
      | none =>
        rw [e] at hc
        obtain ⟨rfl, rfl⟩ := hc
        exact ⟨zp, rfl, upd_same⟩
    refine ⟨_, rfl, _, _, a, b, c, d, rfl, hcur, hp.same sm, b1, b2, b3, b4, b5, fun H1 p hp0 s1 h1 => ?_⟩
    have s2 := Same.trans sm s1
    have ef1 := s2 _ _ ef
    refine ⟨_, rfl, _, rfl, f, xs, ep, kb, k, rfl, ef1, kn.same s2, rfl, s2 _ _ hk, trivial, hl, fun ep' => ?_⟩
    refine q _ p ep' (fun b u nb e => ?_) ?_ upd_same
    · rw [upd_ne nb]; exact s2 _ _ e
    · rw [upd_ne (ne_of h1 ef1 (fun z => nomatch z))]; exact h1
theorem D_is_dealing (T : Hd K mg) : Fn P w K mg base CX0 4 "is_dealing" (spIsDeal K) := by
  have D_is_all_of := fun {P w base} => D_is_all_of (P := P) (w := w) (base := base) T
  obtain ⟨fd, F⟩ := T.d_is_dealing
  refine ⟨T.g_is_dealing, T.p_is_dealing, fd, ["table", "thing"], ?_, FunD.bindsN F fun _ _ _ _ _ _ us hl => match us, hl with | [_, _], _ => rfl⟩
  refine F.ok sc_is_dealing (fun vs H Q E h => ?_) (fun cdv A outer s H vs Q E hr h => ⟨_, PSs.nox (pss_cons (ps_if (pt_not (pt_val (pe_fn D_is_all_of (hr.mono (by first | decide | omega)) rfl pass0 (pa_cons (pv 1) (pa_cons (pe_fld (pv 0) rfl) pa_nil)))))
        (pss_one (ps_ret pe_bl))
        pss_nil)
      (pss_one (ps_ret (pe_callB (cr_all rfl) rfl T.f_all bt_all (pa_cons (pe_lc (own := [("got", 2), ("row", 3)]) rfl sc_is_dealing.nd (RZ.pi_zipA rfl T.f_zip (pa_cons (pv 1) (pa_cons (pe_fld (pv 0) rfl) pa_nil))) (blkOk_by (own := [("got", 2), ("row", 3)]) (N := n_is_dealing) (sc := defScope s_is_dealing) (by decide +kernel)) (fun _ _ _ _ _ => (pg_tupK (K := K) (n := 2) rfl (pgs_cons (pg_name (i := 2) sc_is_dealing.nd rfl (.inl rfl)) (pgs_cons (pg_name (i := 3) sc_is_dealing.nd rfl (.inl rfl)) pgs_nil)))) (fun _ _ _ _ _ => pts_nil) (fun _ _ _ _ _ => (pe_cmpR (op_in_seqK (K := K)) (pv 2) (pv 3) (by rfl)))) pa_nil))))), ?_⟩)
  · obtain ⟨_, _, _, _, rfl, _⟩ := h; rfl
  · obtain ⟨t, p, rows, d, rfl, ht, h12, h64, hp, hd, hin, q⟩ := h
    obtain ⟨C, dx, ra, g1, hC, nr, ns, hrw⟩ := ht.rd T
    refine ⟨_, rfl, _, rfl, t, C, dx, _, _, rfl, g1, hC, ns, rfl, _, rows.length, rfl, h12, .inl ⟨d, ⟨p, rfl, hp, hd⟩, fun H1 s1 => ⟨true, rfl, iteF ?_⟩⟩⟩
    obtain ⟨vs, hra, tps⟩ := hrw.same s1
    have hvl : vs.length = rows.length := by rw [Paired.length tps, List.length_map]
    have hdl : d.length = rows.length := turn_len hd
    refine ⟨_, rfl, _, rfl, t, C, dx, _, _, rfl, s1 _ _ g1, hC, nr, rfl, p, ra, d.map iV, vs, rfl, .inr ⟨SqT.of (s1 _ _ hp), SqT.of hra, fun D hD => ?_⟩⟩
    refine lc_same (walk_zipT (n := rows.length) (xs := d.map iV) (ys := vs) (by rw [List.length_map]; omega)) hD (fun i acc _ => acc = ((d.take i).map fun _ => V.bl true)) (small1000 (by omega)) (fun H' k => ⟨SqT.of (k _ _ (s1 _ _ hp)), SqT.of (k _ _ hra)⟩) (fun _ _ _ _ _ _ _ h => h) rfl ?_ ?_
    · rintro i v H2 H' acc Fin Skip hi hla k rr ⟨Tp, x, y, rfl, hT, rfl, hx, hy⟩ fin skip
      obtain ⟨m, hm, rfl⟩ := map_at hx
      have hy' : vs[i]? = some y := hy
      obtain ⟨tt, htt, pr, rfl, hpr⟩ := paired_get tps hy'
      obtain ⟨r, hr', rfl⟩ := map_at htt
      have hmr := hin i r m hr' hm
      refine ⟨Tp, _, rfl, SqT.of upd_same, rfl, _, _, rfl, _, _, rfl, rfl, rfl, _, rfl, _, rfl, pr, _, rfl, .inr (SqT.of (Same.new hT _ _ (k _ _ hpr))), rfl, ?_, fin _ _ (Same.new hT) ?_⟩
      · rw [List.all_eq_true]
        intro z hz
        obtain ⟨_, _, rfl⟩ := List.mem_map.mp hz
        rfl
      · rw [rr, take_snoc hm, List.map_append]
        have : inV (iV m) (r.map iV) = true := by
          unfold inV
          rw [List.any_eq_true]
          exact ⟨iV m, List.mem_map.mpr ⟨m, hmr, rfl⟩, by simp [eqV]⟩
        rw [if_neg (by decide), this]; rfl
    · intro H2 acc k hla hacc rr
      refine ⟨D, (d.take rows.length).map fun _ => true, rfl, SqL.of ?_, ?_⟩
      · rw [hacc, rr, List.map_map]; rfl
      · have hall : (((d.take rows.length).map fun _ => true).all id) = true := by
          rw [List.all_eq_true]
          intro b hb
          obtain ⟨_, _, rfl⟩ := List.mem_map.mp hb
          rfl
        rw [hall]
        exact q H2 (Same.trans s1 k)
end
end Fo
end
section
set_option Elab.async false
set_option linter.all false
set_option maxRecDepth 100000
set_option maxHeartbeats 8000000
namespace Fo
open PySem PySem.Spec PyProof.Rows L2
/-- the list of dealings at l -/
def Dls (H : Hp) (l : Addr) (D : List (List Nat)) : Prop := ∃ vs, H l = some (.lst vs) ∧ Tups H vs (D.map fun d => d.map iV)
theorem Dls.same {H H' : Hp} {l : Addr} {D : List (List Nat)} (h : Dls H l D) (k : Same H H') : Dls H' l D := let ⟨vs, e, t⟩ := h; ⟨vs, k _ _ e, t.same k⟩
def fit1 (st : Stg) (d : List Nat) (k : Nat) : Bool := match st[k]? with
  | some (some x) => decide (x = d.getD k 0)
  | _ => true
def fits (st : Stg) (d : List Nat) : Bool := (List.range st.length).all fun k => fit1 st d k
def spFits : Sp := fun vs H Q _ => ∃ (a b : Addr) (st : Stg) (d : List Nat), vs = [.ref a, .ref b] ∧ H a = some (.tup (st.map oV)) ∧ H b = some (.tup (d.map iV)) ∧ d.length = st.length ∧ st.length ≤ 100 ∧ ∀ H', Same H H' → Q (.bl (fits st d)) H'
/-- the law's shares -/
def shr (D : List (List Nat)) (q : Nat) (ns : List Nat) : List (Nat × Nat) := ns.map fun x => (x, (D.filter (headIs q x)).length)
def spShares : Sp := fun vs H Q _ => ∃ (l : Addr) (D : List (List Nat)) (q : Nat), vs = [.ref l, iV q] ∧ Dls H l D ∧ D.length ≤ 1000 ∧ (∀ d ∈ D, q < d.length ∧ d.getD q 0 < 6) ∧
  ∀ H' p ns, H p = none → Same H H' → Asc ns → (∀ x, x ∈ ns ↔ x ∈ D.map fun d => d.getD q 0) → Prs H' p (shr D q ns) → Q (.ref p) H'
section
variable {P : Program} {w : World} {K : PySem.W.Frag} {mg : Str → Option Value} {base : Heap}
theorem iV_eq (a b : Nat) : decide (iV a = iV b) = decide (a = b) := decide_eq_decide.mpr ⟨fun z => by injection z with z; omega, fun z => by rw [z]⟩
theorem head_eq (d : List Nat) (q x : Nat) : V.bl (decide (iV (d.getD q 0) = iV x)) = V.bl (headIs q x d) := congrArg V.bl (iV_eq _ _)
theorem at_map {α β : Type} {f : α → β} {xs : List α} {i : Nat} {x : α} (h : xs[i]? = some x) : (xs.map f)[i]? = some (f x) := by rw [List.getElem?_map, h]; rfl
theorem D_law_fits (T : Hd K mg) : Fn P w K mg base CX0 1 "_law_fits" spFits := by
  obtain ⟨fd, F⟩ := T.d_law_fits
  refine ⟨T.g_law_fits, T.p_law_fits, fd, ["_law_standing", "_law_dealing"], ?_, FunD.bindsN F fun _ _ _ _ _ _ us hl => match us, hl with | [_, _], _ => rfl⟩
  refine F.ok sc_law_fits (fun vs H Q E h => ?_) (fun cdv A outer s H vs Q E hr h => ⟨_, PSs.nox (pss_one (ps_ret (pe_callB (cr_all rfl) rfl T.f_all bt_all (pa_cons (pe_lc (own := [("_law_k", 2)]) rfl sc_law_fits.nd (pi_range1 rfl T.f_range (pa_cons (pe_callB call_len rfl T.f_len bt_len (pa_cons (pv 0) pa_nil)) pa_nil)) (blkOk_by (own := [("_law_k", 2)]) (N := n_law_fits) (sc := defScope s_law_fits) (by decide +kernel)) (fun _ _ _ _ _ => (pg_name (i := 2) sc_law_fits.nd rfl (.inl rfl))) (fun _ _ _ _ _ => pts_nil) (fun _ _ _ _ _ => (pe_or (pe_cmpR op_isN (pe_ix (ix_tupK (K := K)) (pv 0) (pv 2) (fun _ _ => rfl)) pe_non (nomark _)) (pe_one (pe_cmpR op_eq (pe_ix (ix_tupK (K := K)) (pv 0) (pv 2) (fun _ _ => rfl)) (pe_ix (ix_tupK (K := K)) (pv 1) (pv 2) (fun _ _ => rfl)) (nomark _)))))) pa_nil)))), ?_⟩)
  · obtain ⟨_, _, _, _, rfl, _⟩ := h; rfl
  · obtain ⟨a, b, st, d, rfl, ha, hb, hd, h100, q⟩ := h
    refine ⟨_, rfl, _, _, rfl, .inr ⟨_, SqT.of ha, rfl⟩, _, rfl, by rw [List.length_map]; omega, by rw [List.length_map]; omega, fun L hL => ?_⟩
    refine lc_same (walk_rangeN (n := (st.map oV).length)) hL (fun i acc _ => acc = (List.range i).map fun k => V.bl (fit1 st d k)) (by rw [List.length_map]; exact small1000 (by omega)) (fun _ _ => True.intro) (fun _ _ _ _ _ _ _ h => h) rfl ?_ ?_
    · rintro i v H1 H' acc Fin Skip hi hla k rr ⟨rfl, rfl⟩ fin skip
      rw [List.length_map] at hi
      obtain ⟨o, ho⟩ : ∃ o, st[i]? = some o := ⟨_, List.getElem?_eq_getElem hi⟩
      have hdi : d[i]? = some (d.getD i 0) := by
        rw [List.getD_eq_getElem?_getD, List.getElem?_eq_getElem (by omega)]; rfl
      have er : (List.range (i + 1)).map (fun k => V.bl (fit1 st d k)) = (List.range i).map (fun k => V.bl (fit1 st d k)) ++ [V.bl (fit1 st d i)] := by rw [List.range_succ, List.map_append]; rfl
      refine ⟨rfl, _, rfl, _, rfl, a, _, _, _, rfl, rfl, SqT.of (k _ _ ha), atI_nat (at_map ho), rfl, _, rfl, ?_⟩
      cases o with
      | none =>
        refine iteT (fin _ _ (Same.refl _) ?_)
        rw [rr, er]
        unfold fit1
        rw [ho]
      | some x =>
        refine iteF ⟨_, rfl, _, rfl, a, _, _, _, rfl, rfl, SqT.of (k _ _ ha), atI_nat (at_map ho), _, rfl, _, rfl, b, _, _, _, rfl, rfl, SqT.of (k _ _ hb), atI_nat (at_map hdi), rfl, fin _ _ (Same.refl _) ?_⟩
        rw [rr, er]
        have : fit1 st d i = decide (oV (some x) = iV (d.getD i 0)) := by
          unfold fit1
          rw [ho]
          exact decide_eq_decide.mpr ⟨fun z => by rw [z]; rfl, fun z => by injection z with z; omega⟩
        rw [this]
    · intro H1 acc k hla hacc rr
      rw [List.length_map] at rr
      refine ⟨L, (List.range st.length).map fun k => fit1 st d k, rfl, SqL.of ?_, ?_⟩
      · rw [hacc, rr, List.map_map]; rfl
      · have : (((List.range st.length).map fun k => fit1 st d k).all id) = fits st d := by rw [List.all_map]; rfl
        rw [this]; exact q H1 k
theorem D_law_shares (T : Hd K mg) : Fn P w K mg base CX0 1 "_law_shares" spShares := by
  obtain ⟨fd, F⟩ := T.d_law_shares
  refine ⟨T.g_law_shares, T.p_law_shares, fd, ["_law_deals", "_law_person"], ?_, FunD.bindsN F fun _ _ _ _ _ _ us hl => match us, hl with | [_, _], _ => rfl⟩
  refine F.ok sc_law_shares (fun vs H Q E h => ?_) (fun cdv A outer s H vs Q E hr h => ⟨_, PSs.nox (pss_cons (ps_set (i := 2) sc_law_shares.nd rfl (.inl rfl) (pe_lst pa_nil))
      (pss_cons (ps_for PassesOwn.never rfl (pi_list (pe_callB (cr_sortedSetMK (w := w) rfl) rfl T.f_sorted bt_sorted (pa_cons (pe_callTy (cr_setLK (K := K) (w := w) rfl) rfl T.f_set bt_set (pa_cons (pe_lc (own := [("_law_told_here", 4)]) rfl sc_law_shares.nd (pi_list (pv 0)) (blkOk_by (own := [("_law_told_here", 4)]) (N := n_law_shares) (sc := defScope s_law_shares) (by decide +kernel)) (fun _ _ _ _ _ => (pg_name (i := 4) sc_law_shares.nd rfl (.inl rfl))) (fun _ _ _ _ _ => pts_nil) (fun _ _ _ _ _ => (pe_ix (ix_tupK (K := K)) (pv 4) (pv 1) (fun _ _ => rfl)))) pa_nil)) pa_nil))) (pg_name (i := 3) sc_law_shares.nd rfl (.inr rfl))
        (pss_one (ps_expr (pe_bm PySem.F.plainAttrs_list PySem.F.slot_list_append PySem.F.type_list_append mt_append (pv 2) (pa_cons (pe_tup (pa_cons (pv 3) (pa_cons (pe_callB call_len rfl T.f_len bt_len (pa_cons (pe_lc (own := [("_law_told_here", 4)]) rfl sc_law_shares.nd (pi_list (pv 0)) (blkOk_by (own := [("_law_told_here", 4)]) (N := n_law_shares) (sc := defScope s_law_shares) (by decide +kernel)) (fun _ _ _ _ _ => (pg_name (i := 4) sc_law_shares.nd rfl (.inl rfl))) (fun _ _ _ _ _ => (pts_one (pt_cmpR op_eq (pe_ix (ix_tupK (K := K)) (pv 4) (pv 1) (fun _ _ => rfl)) (pv 3) (nomark _)))) (fun _ _ _ _ _ => (pv 4))) pa_nil)) pa_nil))) pa_nil)))))
      (pss_one (ps_ret (pv 2))))), ?_⟩)
  · obtain ⟨_, _, _, rfl, _⟩ := h; rfl
  · obtain ⟨l, D, q, rfl, ⟨dv, hl, td⟩, hD1, hDq, qq⟩ := h
    have hvl : dv.length = D.length := by rw [Paired.length td, List.length_map]
    have hget : ∀ d ∈ D, d[q]? = some (d.getD q 0) := fun d hd => by
      rw [List.getD_eq_getElem?_getD, List.getElem?_eq_getElem (hDq d hd).1]; rfl
    refine ⟨Nat.zero_le _, fun fl hfl => ?_⟩
    have s1 := Same.new (o := .lst []) hfl
    refine ⟨_, rfl, l, rfl, ⟨_, SqL.of (s1 _ _ hl)⟩, fun L hL => ?_⟩
    refine lc_same walk_list hL (fun i acc _ => acc = (D.take i).map fun d => iV (d.getD q 0)) (small1000 (by omega)) (fun H' k => SqL.of (k _ _ (s1 _ _ hl))) (fun _ _ _ _ _ _ _ h => h) rfl ?_ ?_
    · rintro i v H1 H' acc Fin Skip hi hla k rr ⟨rfl, y⟩ fin skip
      obtain ⟨tt, htt, p, rfl, hp⟩ := paired_get td y
      obtain ⟨d, hd, rfl⟩ := map_at htt
      refine ⟨rfl, _, rfl, _, rfl, p, _, _, _, rfl, rfl, SqT.of (k _ _ (s1 _ _ hp)), atI_nat (at_map (hget d (List.mem_of_getElem? hd))), fin _ _ (Same.refl _) ?_⟩
      rw [rr, take_snoc hd, List.map_append]; rfl
    · intro H1 acc k1 hla hacc rr
      rw [hvl, List.take_length] at rr
      have s01 := Same.trans s1 k1
      refine ⟨L, (D.map fun d => d.getD q 0).map fun (n : Nat) => (n : Int), rfl, SqL.of ?_, by rw [List.length_map, List.length_map]; omega, fun sp c hc hsp => ?_⟩
      · rw [hacc, rr, List.map_map, List.map_map]; rfl
      refine ⟨sp, _, _, (List.range 6).map fun (n : Nat) => (n : Int), rfl, upd_same, fun j hj => ?_, by decide, fun ms pl hms hmem _ hpl => ?_⟩
      · obtain ⟨n, hn, rfl⟩ := List.mem_map.mp (of_decide_eq_true hj)
        obtain ⟨d, hd, rfl⟩ := List.mem_map.mp hn
        exact List.mem_map.mpr ⟨_, List.mem_range.mpr (hDq d hd).2, rfl⟩
      obtain ⟨ns, rfl⟩ : ∃ ns : List Nat, ms = ns.map fun (n : Nat) => (n : Int) := by
        refine ⟨ms.map Int.toNat, ?_⟩
        rw [List.map_map]
        refine (List.map_id ms).symm.trans (List.map_congr_left fun z hz => ?_)
        obtain ⟨n, _, rfl⟩ := List.mem_map.mp (of_decide_eq_true ((hmem z).mp hz))
        rfl
      have hasc : Asc ns := by
        rw [List.pairwise_map] at hms
        exact hms.imp fun h => by omega
      have hns : ∀ x, x ∈ ns ↔ x ∈ D.map fun d => d.getD q 0 := fun x => by
        have := hmem (x : Int)
        rw [decide_eq_true_iff] at this
        have inj : ∀ l : List Nat, ((x : Int) ∈ l.map fun (n : Nat) => (n : Int)) ↔ x ∈ l := fun l => by
          rw [List.mem_map]
          exact ⟨fun ⟨n, hn, e⟩ => by have : n = x := by omega
                                      rw [← this]; exact hn, fun h => ⟨x, h, rfl⟩⟩
        rw [← inj, ← inj]; exact this
      have hnl : ns.length ≤ 6 := by
        have := nodup_len hasc.nodup (k := List.range 6) fun x hx => by
          obtain ⟨d, hd, rfl⟩ := List.mem_map.mp ((hns x).mp hx)
          exact List.mem_range.mpr (hDq d hd).2
        rwa [List.length_range] at this
      have s02 : Same H (upd (upd H1 sp (SetO w sp (fun j => decide (j ∈ (D.map fun d => d.getD q 0).map fun (n : Nat) => (n : Int))) c)) pl (.lst ((ns.map fun (n : Nat) => (n : Int)).map V.int))) := Same.trans s01 (Same.trans (Same.new hsp) (Same.new hpl))
      have hpf : pl ≠ fl := fun z => by
        subst z
        have := Same.new (o := SetO w sp (fun j => decide (j ∈ (D.map fun d => d.getD q 0).map fun (n : Nat) => (n : Int))) c) hsp pl _ (k1 _ _ upd_same)
        exact nomatch (this.symm.trans hpl)
      have hf2 : (upd (upd H1 sp (SetO w sp (fun j => decide (j ∈ (D.map fun d => d.getD q 0).map fun (n : Nat) => (n : Int))) c)) pl (.lst ((ns.map fun (n : Nat) => (n : Int)).map V.int))) fl = some (.lst []) := Same.new hpl _ _ (Same.new hsp _ _ (k1 _ _ upd_same))
      generalize eH : upd (upd H1 sp (SetO w sp (fun j => decide (j ∈ (D.map fun d => d.getD q 0).map fun (n : Nat) => (n : Int))) c)) pl (.lst ((ns.map fun (n : Nat) => (n : Int)).map V.int)) = H2 at s02 hf2
      have hpl2 : H2 pl = some (.lst (ns.map iV)) := by
        subst eH
        rw [upd_same, List.map_map]; rfl
      clear eH
      refine ⟨pl, rfl, ⟨_, SqL.of hpl2⟩, ?_⟩
      refine for_list (xs := ns.map iV) (fun i σ H3 => ∃ (x3 x4 : Option V) (vs : List V), σ = [some (.ref l), some (iV q), some (.ref fl), x3, x4] ∧ Same H H3 ∧ H3 pl = some (.lst (ns.map iV)) ∧ H3 fl = some (.lst vs) ∧ Tups H3 vs ((shr D q (ns.take i)).map fun e => [iV e.1, iV e.2])) ?_ ?_ ?_ ?_
      · exact ⟨_, _, [], rfl, s02, hpl2, hf2, .nil⟩
      · rintro i σ H3 _ ⟨x3, x4, vs, rfl, _, h, _⟩
        exact SqL.of h
      · rintro i v σ H3 hv ⟨x3, x4, vs, rfl, s3, hp3, hf3, t3⟩
        obtain ⟨x, hx, rfl⟩ := map_at hv
        have hi6 : i < 6 := by have := (List.getElem?_eq_some_iff.mp hx).1; omega
        have hvs : vs.length = i := by
          rw [Paired.length t3, List.length_map]; unfold shr
          rw [List.length_map, List.length_take]; have := (List.getElem?_eq_some_iff.mp hx).1; omega
        refine ⟨_, rfl, .inl ⟨rfl, _, SqL.of hf3⟩, ?_⟩
        refine ⟨_, rfl, _, rfl, l, rfl, ⟨_, SqL.of (s3 _ _ hl)⟩, fun L2 hL2 => ?_⟩
        have nf : fl ≠ L2 := ne_of_none hf3 hL2
        refine lc_same walk_list hL2 (fun i acc H => acc.length = ((D.take i).filter (headIs q x)).length) (small1000 (by omega)) (fun H' k => SqL.of (k _ _ (s3 _ _ hl))) (fun _ _ _ _ _ _ _ h => h) rfl ?_ ?_
        · rintro j v H4 H' acc Fin Skip hj hla k rr ⟨rfl, y⟩ fin skip
          obtain ⟨tt, htt, p, rfl, hp⟩ := paired_get td y
          obtain ⟨d, hd, rfl⟩ := map_at htt
          refine ⟨rfl, _, rfl, _, rfl, p, _, _, _, rfl, rfl, SqT.of (k _ _ (s3 _ _ hp)), atI_nat (at_map (hget d (List.mem_of_getElem? hd))), _, rfl, rfl, headIs q x d, head_eq d q x, ?_⟩
          have er := filter_snoc (p := headIs q x) hd
          cases e : headIs q x d with
          | true =>
            refine iteT ⟨_, rfl, fin _ _ (Same.refl _) ?_⟩
            rw [er, e, if_pos rfl, List.length_append, List.length_append, rr]; rfl
          | false =>
            refine iteF (skip _ (Same.refl _) ?_)
            rw [er, e, if_neg (by decide), List.append_nil]; exact rr
        · intro H4 acc k4 hla4 hacc4 rr4
          rw [hvl, List.take_length] at rr4
          refine ⟨_, _, rfl, .inl ⟨acc, SqL.of hacc4, rfl⟩, sz2, fun tp htp => ?_⟩
          have s4 := Same.trans k4 (Same.new (o := .tup [iV x, .int ((acc.length : Nat) : Int)]) htp)
          have hf4 := s4 _ _ hf3
          refine ⟨fl, vs, _, rfl, rfl, hf4, small1000 (by omega), ?_⟩
          have htf : tp ≠ fl := (ne_of_none (k4 _ _ hf3) htp).symm
          refine ⟨_, _, vs ++ [.ref tp], rfl, Same.mut (Same.trans s3 s4) hfl, by rw [upd_ne hpf]; exact s4 _ _ hp3, upd_same, ?_⟩
          have e1 : shr D q (ns.take (i + 1)) = shr D q (ns.take i) ++ [(x, (D.filter (headIs q x)).length)] := by
            unfold shr
            rw [take_snoc hx, List.map_append]; rfl
          rw [e1, List.map_append]
          refine Tups.snoc ((t3.same s4).x (SmX.put (SmX.refl fl _)) (fun xs z => by rw [hf4] at z; cases z)) ?_
          rw [upd_ne htf, upd_same, rr4]
      · rintro σ H3 ⟨x3, x4, vs, rfl, s3, hp3, hf3, t3⟩
        rw [List.length_map, List.take_length] at t3
        exact ⟨_, rfl, qq H3 fl ns hfl s3 hasc hns ⟨vs, hf3, t3⟩⟩
end
end Fo
end
section
set_option Elab.async false
set_option linter.all false
set_option maxRecDepth 100000
set_option maxHeartbeats 8000000
set_option pp.maxSteps 600
namespace Fo
open PySem PySem.Spec PyProof.Rows L2
/-- lists of dealings, each with the mask of the things that it leaves -/
abbrev LyE := List (List Nat) × Nat
def Lay (ok : Addr → Prop) (H : Hp) (vs : List V) (L : List LyE) : Prop := Paired (fun v e => ∃ p, v = .ref p ∧ ok p ∧ Dls H p e.1) vs L
theorem Lay.same {ok : Addr → Prop} {H H' : Hp} {vs : List V} {L : List LyE} (h : Lay ok H vs L) (k : Same H H') : Lay ok H' vs L := Paired.mapP h fun _ _ ⟨p, e, o, q⟩ => ⟨p, e, o, q.same k⟩
theorem Lay.fresh {ok : Addr → Prop} {H : Hp} {vs : List V} {L : List LyE} {b : Addr} (h : Lay ok H vs L) (hb : H b = none) : Lay (· ≠ b) H vs L := Paired.mapP h fun _ _ ⟨p, e, _, q⟩ => ⟨p, e, (fun z => by obtain ⟨_, q1, _⟩ := id q; rw [z, hb] at q1; cases q1), q⟩
theorem Dls.x {H H' : Hp} {l b : Addr} {D : List (List Nat)} (h : Dls H l D) (k : SmX b H H') (hl : l ≠ b) (nb : ∀ xs, H b ≠ some (.tup xs)) : Dls H' l D := let ⟨vs, e, t⟩ := h; ⟨vs, k _ _ hl e, t.x k nb⟩
theorem Lay.x {H H' : Hp} {vs : List V} {L : List LyE} {b : Addr} (h : Lay (· ≠ b) H vs L) (k : SmX b H H') (nb : ∀ xs, H b ≠ some (.tup xs)) : Lay (· ≠ b) H' vs L := Paired.mapP h fun _ _ ⟨p, e, o, q⟩ => ⟨p, e, o, q.x k o nb⟩
/-- the dealings that the law lists, for a turn -/
structure Deals (rows : List (List Nat)) (t : List Nat) (D : List (List Nat)) : Prop where
  len : rows.length ≤ 6
  asc : ∀ r ∈ rows, Asc r
  lt : ∀ r ∈ rows, ∀ x ∈ r, x < rows.length
  turn : IsTurn rows.length t
  sm : Sm t (t.map (rowOf rows)) (whole rows.length) D
  vec : ∀ d ∈ D, d.length = rows.length ∧ ∀ x ∈ d, x < 6
  few : D.length ≤ 1000
def spLeastSides : Sp := fun vs H Q _ => ∃ (l ta : Addr) (rows : List (List Nat)) (t : List Nat) (D : List (List Nat)), vs = [.ref l, .ref ta] ∧ Deals rows t D ∧ Dls H l D ∧ H ta = some (.tup (t.map iV)) ∧ ∀ H', Same H H' → Q (iV (lsd (t.map (rowOf rows)) (whole rows.length))) H'
section
variable {P : Program} {w : World} {K : PySem.W.Frag} {mg : Str → Option Value} {base : Heap}
theorem D_law_least_sides (T : Hd K mg) : Fn P w K mg base CX0 2 "_law_least_sides" spLeastSides := by
  have D_law_shares := fun {P w base} => D_law_shares (P := P) (w := w) (base := base) T
  have D_law_divisor := fun {P w base} => D_law_divisor (P := P) (w := w) (base := base) T
  obtain ⟨fd, F⟩ := T.d_law_least_sides
  refine ⟨T.g_law_least_sides, T.p_law_least_sides, fd, ["_law_deals", "_law_turn"], ?_, FunD.bindsN F fun _ _ _ _ _ _ us hl => match us, hl with | [_, _], _ => rfl⟩
  refine F.ok sc_law_least_sides (fun vs H Q E h => ?_) (fun cdv A outer s H vs Q E hr h => ⟨_, PSs.nox (pss_cons (ps_set (i := 2) sc_law_least_sides.nd rfl (.inl rfl) (pe_lst (pa_cons (pv 0) pa_nil)))
      (pss_cons (ps_set (i := 3) sc_law_least_sides.nd rfl (.inl rfl) pe_int)
      (pss_cons (ps_for PassesOwn.never rfl (pi_tup (pv 1)) (pg_name (i := 4) sc_law_least_sides.nd rfl (.inr rfl))
        (pss_cons (ps_set (i := 5) sc_law_least_sides.nd rfl (.inl rfl) (pe_lst pa_nil))
        (pss_cons (ps_for PassesOwn.never rfl (pi_list (pv 2)) (pg_name (i := 6) sc_law_least_sides.nd rfl (.inl rfl))
          (pss_one (ps_for PassesOwn.never rfl (pi_list (pe_fn D_law_shares (hr.mono (by first | decide | omega)) rfl pass0 (pa_cons (pv 6) (pa_cons (pv 4) pa_nil)))) (pg_tup rfl (pgs_cons (pg_name (i := 7) sc_law_least_sides.nd rfl (.inr rfl)) (pgs_cons (pg_name (i := 8) sc_law_least_sides.nd rfl (.inl rfl)) pgs_nil)))
            (pss_cons (ps_set (i := 9) sc_law_least_sides.nd rfl (.inl rfl) (pe_op op_fdivNN (pe_callB call_len rfl T.f_len bt_len (pa_cons (pv 6) pa_nil)) (pe_fn D_law_divisor (hr.mono (by first | decide | omega)) rfl pass0 (pa_cons (pe_callB call_len rfl T.f_len bt_len (pa_cons (pv 6) pa_nil)) (pa_cons (pv 8) pa_nil)))))
            (pss_cons (ps_set (i := 3) sc_law_least_sides.nd rfl (.inl rfl) (pe_op op_fdiv (pe_op op_mul (pv 3) (pv 9)) (pe_fn D_law_divisor (hr.mono (by first | decide | omega)) rfl pass0 (pa_cons (pv 3) (pa_cons (pv 9) pa_nil)))))
            (pss_one (ps_expr (pe_bm PySem.F.plainAttrs_list PySem.F.slot_list_append PySem.F.type_list_append mt_append (pv 5) (pa_cons (pe_lc (own := [("_law_told_here", 10)]) rfl sc_law_least_sides.nd (pi_list (pv 6)) (blkOk_by (own := [("_law_told_here", 10)]) (N := n_law_least_sides) (sc := defScope s_law_least_sides) (by decide +kernel)) (fun _ _ _ _ _ => (pg_name (i := 10) sc_law_least_sides.nd rfl (.inl rfl))) (fun _ _ _ _ _ => (pts_one (pt_cmpR op_eq (pe_ix (ix_tupK (K := K)) (pv 10) (pv 4) (fun _ _ => rfl)) (pv 7) (nomark _)))) (fun _ _ _ _ _ => (pv 10))) pa_nil)))))))))
        (pss_one (ps_set (i := 2) sc_law_least_sides.nd rfl (.inl rfl) (pv 5))))))
      (pss_one (ps_ret (pv 3)))))), ?_⟩)
  · obtain ⟨_, _, _, _, _, rfl, _⟩ := h; rfl
  · obtain ⟨l, ta, rows, t, D, rfl, dd, hD, hta, q⟩ := h
    have htn := dd.turn
    have hn6 := dd.len
    have hrl : ∀ r ∈ rows, r.length ≤ 6 := fun r hr => by
      have := Asc.len (dd.asc r hr) (dd.lt r hr)
      omega
    refine ⟨_, rfl, sz1, fun la hla => ?_⟩
    have s1 := Same.new (o := .lst [.ref l]) hla
    refine ⟨_, rfl, ta, rfl, ⟨_, SqT.of (s1 _ _ hta)⟩, ?_⟩
    refine for_tup (xs := t.map iV) (fun i σ H6 => ∃ (la : Addr) (vs : List V) (L : List LyE) (fnd : Nat) (x4 x5 x6 x7 x8 x9 x10 : Option V), σ = [some (.ref l), some (.ref ta), some (.ref la), some (iV fnd), x4, x5, x6, x7, x8, x9, x10] ∧ Same H H6 ∧ H6 la = some (.lst vs) ∧ Lay (fun _ => True) H6 vs L ∧
      (∀ e ∈ L, Sm (t.drop i) ((t.drop i).map (rowOf rows)) e.2 e.1 ∧ (∀ d ∈ e.1, d ∈ D) ∧ e.1.length ≤ 1000) ∧ L.length ≤ 6 ^ i ∧ 0 < fnd ∧ Jv1 ((t.drop i).map (rowOf rows)) (fun k => Dv (t.map (rowOf rows)) (whole rows.length) k) fnd (L.map (·.2))) ?_ ?_ ?_ ?_
    · refine ⟨la, [.ref l], [(D, whole rows.length)], 1, _, _, _, _, _, _, _, rfl, s1, upd_same, .cons ⟨l, rfl, True.intro, hD.same s1⟩ .nil, fun e he => ?_, (show 1 ≤ 6 ^ 0 by decide), by decide, fun k => ?_⟩
      · rw [List.mem_singleton.mp he, List.drop_zero]
        exact ⟨dd.sm, fun d h => h, dd.few⟩
      · rw [List.drop_zero]
        exact ⟨fun h => h.2 _ (by simp), fun h => ⟨Nat.one_dvd _, fun m hm => by rw [show m = whole rows.length by simpa using hm]; exact h⟩⟩
    · rintro i σ H6 _ ⟨la, vs, L, fnd, x4, x5, x6, x7, x8, x9, x10, rfl, s6, _⟩
      exact SqT.of (s6 _ _ hta)
    · rintro i v σ H6 hv ⟨la, vs, L, fnd, x4, x5, x6, x7, x8, x9, x10, rfl, s6, hla6, lay6, hL6, hLl, hf0, jv⟩
      obtain ⟨p, hp, rfl⟩ := map_at hv
      have hi6 : i < 6 := by have := (List.getElem?_eq_some_iff.mp hp).1; have := turn_len htn; omega
      have hpn : p < rows.length := (turn_lt htn).mp (List.mem_of_getElem? hp)
      have hrow : rows[p]? = some rows[p] := List.getElem?_eq_getElem hpn
      generalize rows[p] = r at hrow
      have hrm := List.mem_of_getElem? hrow
      have hdr : (t.drop i).map (rowOf rows) = r :: (t.drop (i + 1)).map (rowOf rows) := by rw [drop_at hp, List.map_cons, rowOf_eq hrow]
      rw [hdr, drop_at hp] at hL6
      rw [hdr] at jv
      refine ⟨Nat.zero_le _, fun lb hlb => ?_⟩
      have lab : la ≠ lb := ne_of_none hla6 hlb
      have hlb0 : H lb = none := by
        rcases hq : H lb with _ | u
        · rfl
        · rw [s6 _ _ hq] at hlb; cases hlb
      have sm7 := Same.new (o := .lst []) hlb
      have lay7 := (lay6.fresh hlb).same sm7
      have hvl : vs.length = L.length := Paired.length lay6
      refine ⟨_, rfl, la, rfl, ⟨_, SqL.of (sm7 _ _ hla6)⟩, ?_⟩
      refine for_list (xs := vs) (fun j σ H7 => ∃ (ws : List V) (M : List LyE) (fnd : Nat) (x6 x7 x8 x9 x10 : Option V), σ = [some (.ref l), some (.ref ta), some (.ref la), some (iV fnd), some (iV p), some (.ref lb), x6, x7, x8, x9, x10] ∧ Same H H7 ∧ H7 la = some (.lst vs) ∧ Lay (· ≠ lb) H7 vs L ∧ H7 lb = some (.lst ws) ∧ Lay (· ≠ lb) H7 ws M ∧
        (∀ e ∈ M, Sm (t.drop (i + 1)) ((t.drop (i + 1)).map (rowOf rows)) e.2 e.1 ∧ (∀ d ∈ e.1, d ∈ D) ∧ e.1.length ≤ 1000) ∧ M.length ≤ 6 * j ∧ 0 < fnd ∧ Jv2 r ((t.drop (i + 1)).map (rowOf rows)) (fun k => Dv (t.map (rowOf rows)) (whole rows.length) k) fnd ((L.drop j).map (·.2)) (M.map (·.2))) ?_ ?_ ?_ ?_
      · exact ⟨[], [], fnd, _, _, _, _, _, rfl, Same.trans s6 sm7, sm7 _ _ hla6, lay7, upd_same, .nil, fun e h => (nomatch h), Nat.zero_le _, hf0, jv.two⟩
      · rintro j σ H7 _ ⟨ws, M, fnd, x6, x7, x8, x9, x10, _, _, h, _⟩
        exact SqL.of h
      · rintro j v σ H7 hv7 ⟨ws, M, fnd, x6, x7, x8, x9, x10, rfl, s7, hla7, lay7, hlb7, lm7, hM7, hMl, hf7, jv7⟩
        obtain ⟨⟨D', m⟩, he, sp, rfl, hsp, dl7⟩ := paired_get lay7 hv7
        obtain ⟨smD, hsub, hD'l⟩ := hL6 _ (List.mem_of_getElem? he)
        have hD'l : D'.length ≤ 1000 := hD'l
        have hdl : (L.drop j).map (·.2) = m :: (L.drop (j + 1)).map (·.2) := by
          obtain ⟨h1, h2⟩ := List.getElem?_eq_some_iff.mp he
          rw [List.drop_eq_getElem_cons h1, h2, List.map_cons]
        rw [hdl] at jv7
        have hDq : ∀ d ∈ D', p < d.length ∧ d.getD p 0 < 6 := fun d hd => by
          obtain ⟨h1, h2⟩ := dd.vec d (hsub d hd)
          have hl : p < d.length := by omega
          refine ⟨hl, h2 _ ?_⟩
          rw [List.getD_eq_getElem?_getD, List.getElem?_eq_getElem hl]
          exact List.getElem_mem hl
        refine ⟨_, rfl, _, rfl, sp, D', p, rfl, dl7, hD'l, hDq, fun H8 pl ns hpl s8 hasc hns hprs => ?_⟩
        have hsh : shr D' p ns = ops r ((t.drop (i + 1)).map (rowOf rows)) m := smD.shares (dd.asc r hrm) hasc hns
        have lbs : H8 lb = some (.lst ws) := s8 _ _ hlb7
        have hpb : pl ≠ lb := fun z => by rw [z, hlb7] at hpl; cases hpl
        obtain ⟨vs2, hpl8, tps8⟩ := hprs
        rw [hsh] at tps8
        have hesl : (ops r ((t.drop (i + 1)).map (rowOf rows)) m).length ≤ 6 := by
          have h1 : (ops r ((t.drop (i + 1)).map (rowOf rows)) m).length ≤ (opn r m).length := by
            unfold ops
            have := List.length_filter_le (fun e : Nat × Nat => decide (0 < e.2)) ((opn r m).map fun x => (x, cnt ((t.drop (i + 1)).map (rowOf rows)) (m - 2 ^ x)))
            rw [List.length_map] at this
            exact this
          have h2 : (opn r m).length ≤ r.length := List.length_filter_le _ _
          have := hrl r hrm
          omega
        have hv2 : vs2.length = (ops r ((t.drop (i + 1)).map (rowOf rows)) m).length := by rw [Paired.length tps8, List.length_map]
        refine ⟨pl, rfl, ⟨_, SqL.of hpl8⟩, ?_⟩
        refine for_list (xs := vs2) (fun e σ H9 => ∃ (ws : List V) (M : List LyE) (fnd : Nat) (x7 x8 x9 x10 : Option V), σ = [some (.ref l), some (.ref ta), some (.ref la), some (iV fnd), some (iV p), some (.ref lb), some (.ref sp), x7, x8, x9, x10] ∧ Same H H9 ∧ H9 la = some (.lst vs) ∧ Lay (· ≠ lb) H9 vs L ∧ Dls H9 sp D' ∧ H9 lb = some (.lst ws) ∧ Lay (· ≠ lb) H9 ws M ∧ H9 pl = some (.lst vs2) ∧ Tups H9 vs2 ((ops r ((t.drop (i + 1)).map (rowOf rows)) m).map fun e => [iV e.1, iV e.2]) ∧
          (∀ e ∈ M, Sm (t.drop (i + 1)) ((t.drop (i + 1)).map (rowOf rows)) e.2 e.1 ∧ (∀ d ∈ e.1, d ∈ D) ∧ e.1.length ≤ 1000) ∧ M.length ≤ 6 * j + e ∧ 0 < fnd ∧ Jv3 r ((t.drop (i + 1)).map (rowOf rows)) (fun k => Dv (t.map (rowOf rows)) (whole rows.length) k) fnd ((ops r ((t.drop (i + 1)).map (rowOf rows)) m).drop e) (cnt (r :: (t.drop (i + 1)).map (rowOf rows)) m) m ((L.drop (j + 1)).map (·.2)) (M.map (·.2))) ?_ ?_ ?_ ?_
        · exact ⟨ws, M, fnd, _, _, _, _, rfl, Same.trans s7 s8, s8 _ _ hla7, lay7.same s8, dl7.same s8, lbs, lm7.same s8, hpl8, tps8, hM7, hMl, hf7, jv7.three⟩
        · rintro e σ H9 _ ⟨ws, M, fnd, x7, x8, x9, x10, rfl, _, _, _, _, _, _, h, _⟩
          exact SqL.of h
        · rintro e v σ H9 hv9 ⟨ws, M, fnd, x7, x8, x9, x10, rfl, s9, hla9, lay9, dl9, hlb9, lm9, hpl9, tps9, hM9, hMl9, hf9, jv9⟩
          obtain ⟨tt, htt, pp, rfl, hpp⟩ := paired_get tps9 hv9
          obtain ⟨⟨x, c⟩, hxc, rfl⟩ := map_at htt
          obtain ⟨hxo, hcc, hc0⟩ := mem_ops.mp (List.mem_of_getElem? hxc)
          have smx := smD.step (dd.asc r hrm).nodup hxo
          have hde : (ops r ((t.drop (i + 1)).map (rowOf rows)) m).drop e = (x, c) :: (ops r ((t.drop (i + 1)).map (rowOf rows)) m).drop (e + 1) := by
            obtain ⟨h1, h2⟩ := List.getElem?_eq_some_iff.mp hxc
            rw [List.drop_eq_getElem_cons h1, h2]
          rw [hde] at jv9
          have hel : e < 6 := by have := (List.getElem?_eq_some_iff.mp hxc).1; omega
          have hDc : D'.length = cnt (r :: (t.drop (i + 1)).map (rowOf rows)) m := smD.len
          have hcD : c ≤ D'.length := by rw [hcc, ← smx.len]; exact List.length_filter_le _ _
          rw [← hDc] at jv9
          obtain ⟨dv, hdv, tdv⟩ := id dl9
          have hdvl : dv.length = D'.length := by rw [Paired.length tdv, List.length_map]
          have hdl : den c D'.length ≤ D'.length := den_le c _
          have hdp : 0 < den c D'.length := den_pos (by omega)
          have hg0 : 0 < Nat.gcd c D'.length := Nat.gcd_pos_of_pos_left _ hc0
          have hgc : Nat.gcd D'.length c ≤ c := Nat.le_of_dvd hc0 (Nat.gcd_dvd_right _ _)
          have hgp : 0 < Nat.gcd fnd (den c D'.length) := Nat.gcd_pos_of_pos_left _ hf9
          have hgl : Nat.gcd fnd (den c D'.length) ≤ den c D'.length := Nat.le_of_dvd hdp (Nat.gcd_dvd_right _ _)
          refine ⟨pp, _, rfl, SqT.of hpp, rfl, _, _, rfl, _, _, rfl, rfl, ?_⟩
          refine ⟨_, rfl, _, _, rfl, .inl ⟨_, SqL.of hdv, rfl⟩, _, rfl, _, _, rfl, .inl ⟨_, SqL.of hdv, rfl⟩, _, rfl, dv.length, c, rfl, ?_⟩
          refine ⟨dv.length, _, rfl, rfl, ⟨by rw [hdvl]; exact Nat.gcd_pos_of_pos_right _ hc0, by rw [hdvl]; omega⟩, ?_⟩
          rw [hdvl, Nat.gcd_comm]
          have hlcm : V.int (((fnd : Nat) : Int) * ((D'.length / Nat.gcd c D'.length : Nat) : Int) / ((Nat.gcd fnd (D'.length / Nat.gcd c D'.length) : Nat) : Int)) = iV (Nat.lcm fnd (den c D'.length)) := by
            rw [← Int.natCast_mul, ← Int.natCast_ediv]; rfl
          have hden : D'.length / Nat.gcd c D'.length = den c D'.length := rfl
          refine ⟨_, rfl, _, rfl, _, _, rfl, rfl, .inr ⟨by omega, by rw [hden]; omega⟩, _, rfl, _, rfl, fnd, D'.length / Nat.gcd c D'.length, rfl, _, _, rfl, rfl, ⟨by rw [hden]; omega, by rw [hden]; omega⟩, ?_⟩
          refine ⟨_, rfl, .inl ⟨rfl, _, SqL.of hlb9⟩, ?_⟩
          refine ⟨_, rfl, sp, rfl, ⟨_, SqL.of hdv⟩, fun L2 hL2 => ?_⟩
          refine lc_same walk_list hL2 (fun i acc H => Tups H acc (((D'.take i).filter (headIs p x)).map fun (d : List Nat) => d.map iV)) (small1000 (by omega)) (fun H' k => SqL.of (k _ _ hdv)) (fun i acc H H' ys hd k h => h.x k (fun xs z => by rw [hd] at z; cases z)) .nil ?_ ?_
          · rintro u v H10 H' acc Fin Skip hu hla k rr ⟨rfl, y⟩ fin skip
            obtain ⟨tt, htt, pd, rfl, hpd⟩ := paired_get tdv y
            obtain ⟨d, hd, rfl⟩ := map_at htt
            have hdp' : d[p]? = some (d.getD p 0) := by
              rw [List.getD_eq_getElem?_getD, List.getElem?_eq_getElem (hDq d (List.mem_of_getElem? hd)).1]; rfl
            refine ⟨rfl, _, rfl, _, rfl, pd, _, _, _, rfl, rfl, SqT.of (k _ _ hpd), atI_nat (at_map hdp'), _, rfl, rfl, headIs p x d, head_eq d p x, ?_⟩
            have er := filter_snoc (p := headIs p x) hd
            cases eh : headIs p x d with
            | true =>
              refine iteT ⟨_, rfl, fin _ _ (Same.refl _) ?_⟩
              rw [er, eh, if_pos rfl, List.map_append]
              exact Tups.snoc rr (k _ _ hpd)
            | false =>
              refine iteF (skip _ (Same.refl _) ?_)
              rw [er, eh, if_neg (by decide), List.append_nil]; exact rr
          · intro H10 acc k10 hla10 hacc10 rr10
            rw [hdvl, List.take_length] at rr10
            have hlb10 := k10 _ _ hlb9
            have h6i : (6 : Nat) ^ i ≤ 6 ^ 5 := Nat.pow_le_pow_right (by decide) (by omega)
            have h65 : (6 : Nat) ^ 5 = 7776 := by decide
            have hjl : j < L.length := (List.getElem?_eq_some_iff.mp he).1
            have hwl : ws.length = M.length := Paired.length lm9
            have L2b : L2 ≠ lb := (ne_of_none hlb9 hL2).symm
            have kx : SmX lb H10 (upd H10 lb (.lst (ws ++ [.ref L2]))) := SmX.put (SmX.refl lb _)
            have nt : ∀ xs, H10 lb ≠ some (.tup xs) := fun xs z => by rw [hlb10] at z; cases z
            have kl : ∀ b, b ≠ lb → ∀ u, H9 b = some u → upd H10 lb (.lst (ws ++ [.ref L2])) b = some u := fun b nb u e => by rw [upd_ne nb]; exact k10 _ _ e
            refine ⟨lb, ws, _, rfl, rfl, hlb10, by rw [sizeLine_eq]; omega, ?_⟩
            refine ⟨ws ++ [.ref L2], M ++ [(D'.filter (headIs p x), m - 2 ^ x)], Nat.lcm fnd (den c D'.length), some (iV x), some (iV c), some (iV (D'.length / Nat.gcd c D'.length)), _, by rw [← hlcm]; rfl, fun b u e => kl b (ne_of_none e hlb0) u (s9 _ _ e), kl _ lab _ hla9, (lay9.same k10).x kx nt, (dl9.same k10).x kx hsp nt, upd_same, ?_, kl _ hpb _ hpl9, (tps9.same k10).x kx nt, fun e' he' => ?_, by rw [List.length_append]; show M.length + 1 ≤ _; omega, Nat.lcm_pos hf9 hdp, ?_⟩
            · exact Paired.snoc ((lm9.same k10).x kx nt) ⟨L2, rfl, L2b, acc, by rw [upd_ne L2b]; exact hacc10, rr10.x kx nt⟩
            · rcases List.mem_append.mp he' with z | z
              · exact hM9 e' z
              · rw [List.mem_singleton.mp z]
                exact ⟨smx, fun d hd => hsub d (List.mem_filter.mp hd).1, Nat.le_trans (List.length_filter_le _ _) hD'l⟩
            · have j2 := jv9.step
              rw [hDc] at j2
              rw [List.map_append, hDc]
              exact j2
        · rintro σ H9 ⟨ws, M, fnd, x7, x8, x9, x10, rfl, s9, hla9, lay9, dl9, hlb9, lm9, hpl9, tps9, hM9, hMl9, hf9, jv9⟩
          rw [hv2, List.drop_length] at jv9
          exact ⟨ws, M, fnd, _, _, _, _, _, rfl, s9, hla9, lay9, hlb9, lm9, hM9, by omega, hf9, jv9.two⟩
      · rintro σ H7 ⟨ws, M, fnd, x6, x7, x8, x9, x10, rfl, s7, hla7, lay7, hlb7, lm7, hM7, hMl, hf7, jv7⟩
        rw [hvl, List.drop_length] at jv7
        refine ⟨_, rfl, lb, ws, M, fnd, _, _, _, _, _, _, _, rfl, s7, hlb7, Paired.mapP lm7 fun _ _ ⟨p, e, _, q⟩ => ⟨p, e, True.intro, q⟩, hM7, ?_, hf7, jv7.one⟩
        rw [Nat.pow_succ]; omega
    · rintro σ H6 ⟨la, vs, L, fnd, x4, x5, x6, x7, x8, x9, x10, rfl, s6, hla6, lay6, hL6, hLl, hf0, jv⟩
      have hl : fnd = lsd (t.map (rowOf rows)) (whole rows.length) := by
        refine eq_of_dvd_iff fun k => ?_
        have ik := jv k
        rw [List.length_map, List.drop_length] at ik
        rw [lsd_dvd]
        exact ⟨fun h => ik.mp ⟨h, fun st _ => trivial⟩, fun h => (ik.mpr h).1⟩
      rw [hl]
      exact ⟨_, rfl, q H6 s6⟩
end
end Fo
end
section
set_option Elab.async false
set_option linter.all false
set_option maxRecDepth 100000
set_option maxHeartbeats 8000000
set_option pp.maxSteps 600
namespace Fo
open PySem PySem.Spec PyProof.Rows L2 LamX NdefX
abbrev s_law_pick : Stmt := (defBody s_law_part_drawer).getD 0 (.Pass ⟨0, 0, 0, 0⟩)
abbrev n_law_pick : List Str := ["_law_standing", "_law_person", "_law_throw", "_law_deals", "_law_sides", "_law_some", "_law_place", "_law_thing", "_law_many", "_law_told_here"]
theorem sc_law_pick : NScopeC n_law_pick ["_law_standing", "_law_person", "_law_throw"] ["_law_deals", "_law_sides"] (C8.fnScope s_law_pick) := ⟨rfl, rfl, rfl, by decide +kernel, rfl, by decide +kernel, by decide +kernel, by decide +kernel, by decide +kernel⟩
abbrev q_pick : Str := (envOfC "_law_part_drawer" (defScope s_law_part_drawer) 0 0 .none).qual ++ "_law_pick"
/-- the picker -/
def GPick (F : NF) : Prop := ∃ cl c, F = NF.of s_law_pick "_law_pick" q_pick cl c
/-- what is picked -/
def pkV (o : Option Nat) : V := match o with
  | some x => iV x
  | none => .non
def spPick : V → V → Sp := fun v1 v2 vs H Q _ => ∃ (dl kb : Addr) (D : List (List Nat)) (st : Stg) (s q k : Nat), v1 = .ref dl ∧ v2 = iV s ∧ vs = [.ref kb, iV q, iV k] ∧ Dls H dl D ∧ D.length ≤ 1000 ∧ (∀ d ∈ D, d.length = st.length ∧ q < d.length ∧ d.getD q 0 < 6) ∧ H kb = some (.tup (st.map oV)) ∧ st.length ≤ 100 ∧ 0 < s ∧ s ≤ 12 ∧ k ≤ 1000 ∧
  ∀ H' ns, Same H H' → Asc ns → (∀ x, x ∈ ns ↔ x ∈ (D.filter (fits st)).map fun d => d.getD q 0) → Q (pkV (pk (shr (D.filter (fits st)) q ns) (k * (D.filter (fits st)).length / s))) H'
section
variable {P : Program} {w : World} {K : PySem.W.Frag} {mg : Str → Option Value} {base : Heap}
theorem D_law_pick (T : Hd K mg) {f : Addr} {F : NF} (G : GPick F) : NOk P w K mg base CX0 2 f F ["_law_standing", "_law_person", "_law_throw"] ["_law_deals", "_law_sides"] (spCells spPick) := by
  have D_law_fits := fun {P w base} => D_law_fits (P := P) (w := w) (base := base) T
  have D_law_shares := fun {P w base} => D_law_shares (P := P) (w := w) (base := base) T
  obtain ⟨cl, c, rfl⟩ := G
  refine nok_ofC (N := n_law_pick) sc_law_pick (fun _ _ _ us hl => match us, hl with | [_, _, _], _ => rfl) (fun ws vs H Q E h => ?_) (fun A outer s H vs ws Q E hr hl h => ⟨_, PSs.nox (pss_cons (ps_setLc (i := 5) (own := [("_law_told_here", 9)]) rfl sc_law_pick.nd rfl rfl (sw_true rfl rfl rfl (by decide +kernel)) (pi_list (pv 3)) (blkOk_by (own := [("_law_told_here", 9)]) (N := n_law_pick) (sc := C8.fnScope s_law_pick) (by decide +kernel)) (fun _ _ _ _ _ => (pg_name (i := 9) sc_law_pick.nd rfl (.inl rfl))) (fun _ _ _ _ _ => (pts_one (pt_val (pe_fn D_law_fits (hr.mono (by first | decide | omega)) rfl pass0 (pa_cons (pv 0) (pa_cons (pv 9) pa_nil)))))) (fun _ _ _ _ _ => (pv 9)))
      (pss_cons (ps_set (i := 6) sc_law_pick.nd rfl (.inl rfl) (pe_op op_fdivNN (pe_callTy call_int1 rfl T.f_int bt_int (pa_cons (pe_op op_mulN (pv 2) (pe_callB call_len rfl T.f_len bt_len (pa_cons (pv 5) pa_nil))) pa_nil)) (pv 4)))
      (pss_cons (ps_for PassesOwn.never rfl (pi_list (pe_fn D_law_shares (hr.mono (by first | decide | omega)) rfl pass0 (pa_cons (pv 5) (pa_cons (pv 1) pa_nil)))) (pg_tup rfl (pgs_cons (pg_name (i := 7) sc_law_pick.nd rfl (.inl rfl)) (pgs_cons (pg_name (i := 8) sc_law_pick.nd rfl (.inl rfl)) pgs_nil)))
        (pss_cons (ps_if (pt_cmpR op_lt (pv 6) (pv 8) (nomark _))
          (pss_one (ps_ret (pv 7)))
          pss_nil)
        (pss_one (ps_set (i := 6) sc_law_pick.nd rfl (.inl rfl) (pe_op op_sub (pv 6) (pv 8))))))
      (pss_one (ps_ret pe_non))))), ?_⟩)
  · match ws, h with
    | [some a, some b], h =>
      obtain ⟨_, _, _, _, _, _, _, _, _, rfl, _⟩ := h
      rfl
  · match ws, h with
    | [some a, some b], h =>
      obtain ⟨dl, kb, D, st, sd, q, k, rfl, rfl, rfl, ⟨dv, hdl, tdv⟩, hD1, hDq, hkb, h100, hs0, hs12, hk1, qq⟩ := h
      have hdvl : dv.length = D.length := by rw [Paired.length tdv, List.length_map]
      refine ⟨_, rfl, dl, rfl, ⟨_, SqL.of hdl⟩, fun L hL => ?_⟩
      refine lc_same walk_list hL (fun i acc H => Tups H acc (((D.take i).filter (fits st)).map fun (d : List Nat) => d.map iV)) (small1000 (by omega)) (fun H' k => SqL.of (k _ _ hdl)) (fun i acc H H' ys hd k h => h.x k (fun xs z => by rw [hd] at z; cases z)) .nil ?_ ?_
      · rintro u v H1 H' acc Fin Skip hu hla kk rr ⟨rfl, y⟩ fin skip
        obtain ⟨tt, htt, pd, rfl, hpd⟩ := paired_get tdv y
        obtain ⟨d, hd, rfl⟩ := map_at htt
        obtain ⟨hd1, hd2, hd3⟩ := hDq d (List.mem_of_getElem? hd)
        have er := filter_snoc (p := fits st) hd
        refine ⟨rfl, _, rfl, _, rfl, kb, pd, st, d, rfl, kk _ _ hkb, kk _ _ hpd, hd1, h100, fun H2 s2 => ?_⟩
        refine ⟨fits st d, rfl, ?_⟩
        cases eh : fits st d with
        | true =>
          refine iteT ⟨_, rfl, fin _ _ s2 ?_⟩
          rw [er, eh, if_pos rfl, List.map_append]
          exact Tups.snoc (rr.same s2) (s2 _ _ (kk _ _ hpd))
        | false =>
          refine iteF (skip _ s2 ?_)
          rw [er, eh, if_neg (by decide), List.append_nil]; exact rr.same s2
      · intro H1 acc s1 hla hacc rr
        rw [hdvl, List.take_length] at rr
        have hsub : ∀ d ∈ D.filter (fits st), q < d.length ∧ d.getD q 0 < 6 := fun d hd => (hDq d (List.mem_filter.mp hd).1).2
        have hDl : (D.filter (fits st)).length ≤ 1000 := Nat.le_trans (List.length_filter_le _ _) hD1
        have hal : acc.length = (D.filter (fits st)).length := by rw [Paired.length rr, List.length_map]
        refine ⟨_, rfl, _, rfl, _, _, rfl, .inl ⟨_, SqL.of hacc, rfl⟩, k, acc.length, rfl, rfl, by omega, .inl ⟨_, rfl, _, rfl, k * acc.length, sd, rfl, rfl, ⟨hs0, by omega⟩, ?_⟩⟩
        refine ⟨_, rfl, _, rfl, L, D.filter (fits st), q, rfl, ⟨acc, hacc, rr⟩, hDl, hsub, fun H2 pl ns hpl s2 hasc hns hprs => ?_⟩
        obtain ⟨vs2, hpl2, tps2⟩ := hprs
        have hv2 : vs2.length = (shr (D.filter (fits st)) q ns).length := by rw [Paired.length tps2, List.length_map]
        have hfin := fun H' (s' : Same H2 H') => qq H' ns (Same.trans s1 (Same.trans s2 s')) hasc hns
        rw [← hal] at hfin
        generalize shr (D.filter (fits st)) q ns = es at tps2 hv2 hfin
        refine ⟨pl, rfl, ⟨_, SqL.of hpl2⟩, ?_⟩
        refine for_list (xs := vs2) (fun e σ H3 => ∃ (pc : Nat) (x7 x8 x9 : Option V), σ = [some (.ref kb), some (iV q), some (iV k), some (.ref dl), some (iV sd), some (.ref L), some (iV pc), x7, x8, x9] ∧ H3 = H2 ∧ pk (es.drop e) pc = pk es (k * acc.length / sd)) ?_ ?_ ?_ ?_
        · exact ⟨k * acc.length / sd, _, _, _, rfl, rfl, rfl⟩
        · rintro e σ _ _ ⟨pc, x7, x8, x9, _, rfl, _⟩
          exact SqL.of hpl2
        · rintro e v σ _ hv ⟨pc, x7, x8, x9, rfl, rfl, hpk⟩
          obtain ⟨tt, htt, pp, rfl, hpp⟩ := paired_get tps2 hv
          obtain ⟨⟨x, c⟩, hxc, rfl⟩ := map_at htt
          have hde : es.drop e = (x, c) :: es.drop (e + 1) := by
            obtain ⟨h1, h2⟩ := List.getElem?_eq_some_iff.mp hxc
            rw [List.drop_eq_getElem_cons h1, h2]
          rw [hde] at hpk
          refine ⟨pp, _, rfl, SqT.of hpp, rfl, _, _, rfl, _, _, rfl, rfl, ?_⟩
          refine ⟨_, rfl, _, rfl, _, _, rfl, rfl, decide (pc < c), congrArg V.bl (decide_eq_decide.mpr ⟨fun z => by omega, fun z => by omega⟩), ?_⟩
          by_cases hlt : pc < c
          · rw [decide_eq_true hlt]
            have : pk ((x, c) :: es.drop (e + 1)) pc = some x := if_pos hlt
            rw [this] at hpk
            have hf := hfin _ (Same.refl _)
            rw [← hpk] at hf
            exact iteT ⟨_, rfl, hf⟩
          · rw [decide_eq_false hlt]
            have : pk ((x, c) :: es.drop (e + 1)) pc = pk (es.drop (e + 1)) (pc - c) := if_neg hlt
            rw [this] at hpk
            refine iteF ⟨_, rfl, _, rfl, _, _, rfl, rfl, pc - c, some (iV x), some (iV c), x9, ?_, rfl, hpk⟩
            have e5 : iV (pc - c) = V.int (((pc : Nat) : Int) - ((c : Nat) : Int)) := congrArg V.int (by omega)
            rw [e5]; rfl
        · rintro σ _ ⟨pc, x7, x8, x9, rfl, rfl, hpk⟩
          rw [hv2, List.drop_length] at hpk
          have hf := hfin _ (Same.refl _)
          rw [← hpk] at hf
          exact hf
end
end Fo
end
section
set_option Elab.async false
set_option linter.all false
set_option maxRecDepth 100000
set_option maxHeartbeats 8000000
set_option pp.maxSteps 600
namespace Fo
open PySem PySem.Spec PyProof.Rows L2 LamX NdefX
/-- all but tables stay -/
def KpT (H H' : Hp) : Prop := ∀ b u, (∀ ps, u ≠ HO.tbl ps) → H b = some u → H' b = some u
abbrev kPart : He.Defn := ("_law_part_drawer", none)
abbrev nmPick : Nat → Nat → Str := fun _ _ => q_pick
abbrev TPart (K : PySem.W.Frag) : List NTab := [((He.cT K kPart).2, nmPick)]
def spPart (K : PySem.W.Frag) : Sp := fun vs H Q _ => ∃ d1 d2 : V, vs = [d1, d2] ∧ TabsN (TPart K) H ∧
  ∀ H' f F c1 c2, GPick F → KpT H H' → TabsN (TPart K) H' → PickAt H' f F "_law_deals" "_law_sides" c1 c2 d1 d2 → Q (.ref f) H'
section
variable {P : Program} {w : World} {K : PySem.W.Frag} {mg : Str → Option Value} {base : Heap}
theorem D_law_part_drawer (T : Hd K mg) (TB : TabB base mg (He.cT K kPart).1 (He.cT K kPart).2) : Fn P w K mg base CX0 1 "_law_part_drawer" (spPart K) := by
  obtain ⟨fd, F⟩ := T.d_law_part_drawer
  refine ⟨T.g_law_part_drawer, T.p_law_part_drawer, fd, ["_law_deals", "_law_sides"], ?_, FunD.bindsN F fun _ _ _ _ _ _ us hl => match us, hl with | [_, _], _ => rfl⟩
  refine cells_ok (i := 0) (j := 1) (m := 2) F sc_law_part_drawer (fun vs H Q E h => ?_) rfl rfl rfl rfl (by decide +kernel) (by decide +kernel) (by decide +kernel) (by decide) (by decide) (by decide) (fun cdv A outer s H vs Q E hcd lk hr h => ?_)
  · obtain ⟨_, _, rfl, _⟩ := h; rfl
  · obtain ⟨d1, d2, rfl, ht, q⟩ := h
    obtain ⟨oc, od, osl, lk, hfc⟩ := lk
    obtain ⟨c, rfl⟩ := He.codeIn_ref hcd
    have ec : He.codeOf K kPart = c := He.codeOf_eq lk hfc
    refine ⟨_, ps_ndefMS (T := TPart K) (nm := nmPick) (c := (He.cT K kPart).1) (P := (He.cT K kPart).2) (i := 2) rfl TB (by show Value.ref c = .ref (He.codeOf K kPart); rw [ec]) (List.mem_singleton.mpr rfl) rfl (fun p hp _ => by rw [List.mem_singleton.mp hp]) (ndef_free (sc := defScope s_law_part_drawer) (nsc := C8.fnScope s_law_pick) (fr := ["_law_deals", "_law_sides"]) (by decide +kernel)) rfl rfl rfl sc_law_part_drawer.nd rfl (.inl rfl) (.inl rfl), ?_⟩
    refine ⟨ht, fun g c' H1 eN nn T1 f0 f1 c1 => ⟨.ref g, d1, d2, rfl, rfl, rfl, fun a1 a2 l1 l2 hne h1 h2 => ?_⟩⟩
    have e1 : a1 = s.heap.objs.size + 1 := (Option.some.inj ((show (cellsFrom (s.heap.objs.size + 1) (defScope s_law_part_drawer).names []).lookup ("_law_deals" : PySem.Str) = some (s.heap.objs.size + 1) from rfl).symm.trans l1)).symm
    have e2 : a2 = s.heap.objs.size + 2 := (Option.some.inj ((show (cellsFrom (s.heap.objs.size + 1) (defScope s_law_part_drawer).names []).lookup ("_law_sides" : PySem.Str) = some (s.heap.objs.size + 2) from rfl).symm.trans l2)).symm
    have up : ∀ b u, H1 b = some u → add2 H1 a1 a2 (CellO a1 d1) (CellO a2 d2) b = some u := fun b u e => by rw [add2_ne (ne_of_none e h1) (ne_of_none e h2)]; exact e
    refine q _ g _ a1 a2 ⟨_, c', rfl⟩ (fun b u nt e => up _ _ (eN b u e nt)) (T1.ext up) ⟨up _ _ f1, up _ _ c1, ?_, hne, if_pos rfl, ?_⟩
    · rw [e1, e2]; rfl
    · unfold add2
      rw [if_neg (fun z => hne z.symm), if_pos rfl]
end
end Fo
end
section
set_option Elab.async false
set_option linter.all false
set_option maxRecDepth 100000
set_option maxHeartbeats 8000000
set_option pp.maxSteps 600
namespace Fo
open PySem PySem.Spec PyProof.Rows L2 LamX NdefX
/-- the throws told so far -/
def KvF (H : Hp) (kvs : List (Key × V)) (fk : Nat → Option Nat) (s k : Nat) : Prop := KvOk dSet kvs ∧ ∀ x : Nat, (valV kvs (.inl ((x : Nat) : Int)) = none ∧ cq fk x k = 0) ∨
  ∃ v, valV kvs (.inl ((x : Nat) : Int)) = some v ∧ 0 < cq fk x k ∧ Fr H v (redT (cq fk x k) s) (redB (cq fk x k) s)
theorem KvF.same {H H' : Hp} {kvs : List (Key × V)} {fk : Nat → Option Nat} {s k : Nat} (h : KvF H kvs fk s k) (sm : Same H H') : KvF H' kvs fk s k :=
  ⟨h.1, fun x => (h.2 x).elim .inl fun ⟨v, a, b, c⟩ => .inr ⟨v, a, b, c.same sm⟩⟩
theorem KvF.cur {H : Hp} {kvs : List (Key × V)} {fk : Nat → Option Nat} {s k : Nat} (h : KvF H kvs fk s k) (hs : 0 < s) (hk : k ≤ s) (y : Nat) :
    ∃ a b, Cur H (valV kvs (.inl ((y : Nat) : Int))) a b ∧ redT (a * s + 1 * b) (b * s) = redT (cq fk y k + 1) s ∧ redB (a * s + 1 * b) (b * s) = redB (cq fk y k + 1) s ∧ a ≤ s ∧ 0 < b ∧ b ≤ s := by
  rcases h.2 y with ⟨h1, h2⟩ | ⟨v, h1, h2, h3⟩
  · rw [h1, h2]
    obtain ⟨e1, e2⟩ := red_zero hs
    exact ⟨0, 1, ⟨rfl, rfl⟩, e1, e2, Nat.zero_le _, by decide, hs⟩
  · rw [h1]
    obtain ⟨e1, e2⟩ := red_succ (q := cq fk y k) hs
    exact ⟨_, _, h3, e1, e2, Nat.le_trans redT_le (Nat.le_trans (cq_le _ _ _) hk), redB_pos hs, redB_le⟩
theorem KvF.put {H H' : Hp} {f p : Addr} {kvs : List (Key × V)} {fk : Nat → Option Nat} {s k y : Nat} (h : KvF H kvs fk s k) (hf : H f = some (.dK kvs)) (sm : SmX f H H') (hy : y < 64) (e : fk k = some y) (hp : H' p = some (.tup [iV (redT (cq fk y k + 1) s), iV (redB (cq fk y k + 1) s)])) :
    KvF H' (putK kvs (.inl ((y : Nat) : Int)) (.ref p)) fk s (k + 1) := by
  refine ⟨h.1.put (mem_dSet hy) _, fun x => ?_⟩
  rw [valV_put, cq_succ e]
  by_cases q : x = y
  · subst q
    rw [if_pos rfl, if_pos rfl]
    exact .inr ⟨_, rfl, Nat.succ_pos _, p, rfl, hp⟩
  · have q2 : ¬ ((Sum.inl ((x : Nat) : Int) : Key) = .inl ((y : Nat) : Int)) := fun z => q (by injection z with z; omega)
    rw [if_neg q2, if_neg q, Nat.add_zero]
    rcases h.2 x with z | ⟨v, a, b, p0, c, d⟩
    · exact .inl z
    · exact .inr ⟨v, a, b, p0, c, sm _ _ (ne_of d hf (fun z => nomatch z)) d⟩
theorem Dls.del {H : Hp} {f : Addr} {F : NF} {n1 n2 : Str} {c1 c2 : Addr} {v1 v2 : V} {l : Addr} {D : List (List Nat)} (h : Dls H l D) (p : PickAt H f F n1 n2 c1 c2 v1 v2) : Dls (del2 H c1 c2) l D :=
  let ⟨vs, e, t⟩ := h
  ⟨vs, p.keep e (cell_lst _) (cell_lst _), Paired.mapP t fun _ _ ⟨b, e, q⟩ => ⟨b, e, p.keep q (cell_tup _) (cell_tup _)⟩⟩
/-- where a picker stands, and what it picks from -/
structure Drw (H : Hp) (f : Addr) (D : List (List Nat)) (s : Nat) : Prop where
  ex : ∃ F c1 c2 dl, GPick F ∧ PickAt H f F "_law_deals" "_law_sides" c1 c2 (.ref dl) (iV s) ∧ Dls H dl D
theorem Drw.same {H H' : Hp} {f : Addr} {D : List (List Nat)} {s : Nat} (h : Drw H f D s) (k : Same H H') : Drw H' f D s := let ⟨F, c1, c2, dl, a, b, c⟩ := h.ex; ⟨F, c1, c2, dl, a, b.same k, c.same k⟩
def spThrows (K : PySem.W.Frag) : Sp := fun vs H Q _ => ∃ (tb f kb : Addr) (rows : List (List Nat)) (D : List (List Nat)) (st : Stg) (s q : Nat) (r : List Nat) (es : List (Nat × Nat)), vs = [.ref tb, iV s, .ref f, .ref kb, iV q] ∧ Tab K H tb rows ∧ rows.length ≤ 6 ∧ Drw H f D s ∧ D.length ≤ 1000 ∧
  (∀ d ∈ D, d.length = st.length ∧ q < d.length ∧ d.getD q 0 < 6) ∧ H kb = some (.tup (st.map oV)) ∧ st.length ≤ 6 ∧ 0 < s ∧ s ≤ 12 ∧ rows[q]? = some r ∧ r.length ≤ 64 ∧ (∀ ns, Asc ns → (∀ x, x ∈ ns ↔ x ∈ (D.filter (fits st)).map fun d => d.getD q 0) → shr (D.filter (fits st)) q ns = es) ∧
  (∀ k, k < s → ∃ x, pk es (k * (D.filter (fits st)).length / s) = some x ∧ x ∈ r ∧ x < rows.length ∧ some x ∉ st) ∧
  ∀ H' p kvs, H p = none → Same H H' → H' p = some (.dK kvs) → KvF H' kvs (fun k => pk es (k * (D.filter (fits st)).length / s)) s s → Q (.ref p) H'
section
variable {P : Program} {w : World} {K : PySem.W.Frag} {mg : Str → Option Value} {base : Heap}
theorem D_throws (T : Hd K mg) : Fn P w K mg base CX0 5 "throws" (spThrows K) := by
  have D_is_within := fun {P w base} => D_is_within (P := P) (w := w) (base := base) T
  have D_addedK := fun {P w base} => D_addedK (P := P) (w := w) (base := base) T
  obtain ⟨fd, F⟩ := T.d_throws
  refine ⟨T.g_throws, T.p_throws, fd, ["table", "sides", "pick", "standing", "person"], ?_, FunD.bindsN F fun _ _ _ _ _ _ us hl => match us, hl with | [_, _, _, _, _], _ => rfl⟩
  refine F.ok sc_throws (fun vs H Q E h => ?_) (fun cdv A outer s H vs Q E hr h => ⟨_, PSs.nox (pss_cons (ps_set (i := 5) sc_throws.nd rfl (.inl rfl) pe_dnewK)
      (pss_cons (ps_for PassesOwn.never rfl (pi_range1 rfl T.f_range (pa_cons (pv 1) pa_nil)) (pg_name (i := 6) sc_throws.nd rfl (.inl rfl))
        (pss_cons (ps_set (i := 7) sc_throws.nd rfl (.inl rfl) (pe_callP (i := 2) (G := GPick) (n1 := "_law_deals") (n2 := "_law_sides") (fun f F G => D_law_pick T G) (hr.mono (by first | decide | omega)) (by decide) rfl (.inl rfl) (pa_cons (pv 3) (pa_cons (pv 4) (pa_cons (pv 6) pa_nil)))))
        (pss_cons (ps_set (i := 8) sc_throws.nd rfl (.inl rfl) (pe_and (pe_fn D_is_within (hr.mono (by first | decide | omega)) rfl pass0 (pa_cons (pv 7) (pa_cons pe_int (pa_cons (pe_op op_sub (pe_fld (pv 0) rfl) pe_int) pa_nil)))) (pe_and (pe_cmpR op_in_seq (pv 7) (pe_ix ix_tup (pe_fld (pv 0) rfl) (pv 4) (fun _ _ => rfl)) (by rfl)) (pe_one (pe_cmpR op_notIn_seq (pv 7) (pv 3) (by rfl))))))
        (pss_one (ps_expr (pe_fn D_addedK (hr.mono (by first | decide | omega)) rfl pass0 (pa_cons (pv 5) (pa_cons (pe_ifExp (pt_val (pv 8)) (pv 7) (pe_gs rfl T.k_STUCK)) (pa_cons (pe_tup (pa_cons pe_int (pa_cons (pv 1) pa_nil))) pa_nil)))))))))
      (pss_one (ps_ret (pv 5))))), ?_⟩)
  · obtain ⟨_, _, _, _, _, _, _, _, _, _, rfl, _⟩ := h; rfl
  · obtain ⟨tb, f, kb, rows, D, st, s, q, r, es, rfl, htb, hn6, hdr, hD1, hDq, hkb, hst6, hs0, hs12, hrow, hr64, hsh, hpk, qq⟩ := h
    refine fun fl hfl => ?_
    have s1 := Same.new (o := .dK []) hfl
    refine ⟨_, rfl, _, rfl, by omega, by omega, ?_⟩
    generalize hfk : (fun k => pk es (k * (D.filter (fits st)).length / s)) = fk at qq
    refine for_it walk_rangeN (fun k σ H3 => ∃ (kvs : List (Key × V)) (x6 x7 x8 : Option V), σ = [some (.ref tb), some (iV s), some (.ref f), some (.ref kb), some (iV q), some (.ref fl), x6, x7, x8] ∧ Same H H3 ∧ H3 fl = some (.dK kvs) ∧ KvF H3 kvs fk s k) ?_ ?_ ?_ ?_
    · exact ⟨[], _, _, _, rfl, s1, upd_same, .nil, fun x => .inl ⟨rfl, rfl⟩⟩
    · intro _ _ _ _ _; trivial
    · rintro k v σ H30 H3 hk ⟨kvs, x6, x7, x8, rfl, s3, hf3, kv3⟩ ⟨rfl, rfl⟩
      have hk : k < s := hk
      obtain ⟨F, c1, c2, dl, G, pk3, dl3⟩ := (hdr.same s3).ex
      obtain ⟨x, hx, hxr, hxn, hxs⟩ := hpk k hk
      have hfkx : fk k = some x := by rw [← hfk]; exact hx
      have hx64 : x < 64 := by omega
      refine ⟨f, F, c1, c2, .ref dl, iV s, rfl, G, pk3, _, rfl, _, rfl, _, rfl, pk3, dl, kb, D, st, s, q, k, rfl, rfl, rfl, dl3.del pk3, hD1, hDq, pk3.keep (s3 _ _ hkb) (cell_tup _) (cell_tup _), by omega, hs0, hs12, by omega, fun H' ns s' hasc hmem => ?_⟩
      intro H4 e4
      rw [hsh ns hasc hmem, hx, show pkV (some x) = iV x from rfl]
      have s34 : Same H3 H4 := by rw [e4]; exact pk3.back s'
      clear e4
      have s4 := Same.trans s3 s34
      obtain ⟨C, dx, ra, g1, hC, nr, ns', hrw⟩ := (htb.same s4).rd T
      obtain ⟨vs, pr, hra, hvi, hpr⟩ := hrw.at hrow
      refine ⟨_, rfl, _, rfl, tb, C, dx, _, _, rfl, g1, hC, ns', rfl, _, _, rfl, rfl, iV x, 0, _, rfl, trivial, true, congrArg V.bl (by rw [inW_nat]; exact decide_eq_true hxn), iteT ?_⟩
      have hin : inV (iV x) (r.map iV) = true := by
        unfold inV
        rw [List.any_eq_true]
        exact ⟨iV x, List.mem_map.mpr ⟨x, hxr, rfl⟩, by simp [eqV]⟩
      refine ⟨_, rfl, _, rfl, tb, C, dx, _, _, rfl, g1, hC, nr, rfl, _, rfl, ra, vs, _, _, rfl, rfl, SqT.of hra, atI_nat hvi, pr, _, rfl, .inr (SqT.of hpr), rfl, ?_, true, congrArg V.bl (by rw [if_neg (by decide), hin]), iteT ?_⟩
      · rw [List.all_eq_true]
        intro z hz
        obtain ⟨_, _, rfl⟩ := List.mem_map.mp hz
        rfl
      refine ⟨_, rfl, _, rfl, kb, _, rfl, .inr (SqT.of (s4 _ _ hkb)), rfl, ?_, ?_⟩
      · rw [List.all_eq_true]
        intro z hz
        obtain ⟨o, _, rfl⟩ := List.mem_map.mp hz
        cases o <;> rfl
      rw [if_pos rfl, inV_o, decide_eq_false hxs]
      refine ⟨_, rfl, _, rfl, true, rfl, iteT ⟨_, rfl, _, rfl, sz2, fun tp htp => ?_⟩⟩
      have s5 := Same.trans s34 (Same.new (o := .tup [.int 1, iV s]) htp)
      obtain ⟨a, b, hcur, ra1, ra2, ra3, ra4, ra5⟩ := (kv3.same s5).cur hs0 (by omega : k ≤ s) x
      have hbs : b * s ≤ 12 * 12 := Nat.mul_le_mul (by omega) hs12
      have hkl : kvs.length ≤ 64 := by
        have := kv3.1.len
        rw [show dSet.length = 64 by decide +kernel] at this
        exact this
      refine ⟨fl, kvs, x, .ref tp, a, b, 1, s, rfl, s5 _ _ hf3, hcur, ⟨tp, rfl, upd_same⟩, by omega, by omega, by omega, Nat.mul_pos ra4 hs0, by omega, by omega, fun H5 p sx hp hfl5 => ?_⟩
      rw [ra1, ra2] at hp
      refine ⟨_, some (iV k), some (iV x), some (.bl true), rfl, same_fresh hfl (Same.trans s3 s5) sx, hfl5, (kv3.same s5).put (s5 _ _ hf3) sx hx64 hfkx hp⟩
    · rintro σ H3 ⟨kvs, x6, x7, x8, rfl, s3, hf3, kv3⟩
      exact ⟨_, rfl, qq H3 fl kvs hfl s3 hf3 kv3⟩
end
end Fo
end
section
set_option Elab.async false
set_option linter.all false
set_option maxRecDepth 100000
set_option maxHeartbeats 8000000
set_option pp.maxSteps 600
namespace Fo
open PySem PySem.Spec PyProof.Rows L2 LamX NdefX
theorem fits_iff {st : Stg} {d : List Nat} : fits st d = true ↔ ∀ k x, st[k]? = some (some x) → x = d.getD k 0 := by
  unfold fits
  rw [List.all_eq_true]
  constructor
  · intro h k x e
    have h1 := h k (List.mem_range.mpr (List.getElem?_eq_some_iff.mp e).1)
    unfold fit1 at h1
    rw [e] at h1
    exact of_decide_eq_true h1
  · intro h k hk
    unfold fit1
    split
    · rename_i x e
      exact decide_eq_true (h k x e)
    · rfl
theorem fits_none (n : Nat) (d : List Nat) : fits (List.replicate n none) d = true := fits_iff.mpr fun k x e => by
  rw [List.getElem?_replicate] at e
  split at e <;> cases e
theorem fits_set {st : Stg} {q x : Nat} (h : st[q]? = some none) (d : List Nat) : fits (st.set q (some x)) d = (fits st d && headIs q x d) := by
  obtain ⟨hl, _⟩ := List.getElem?_eq_some_iff.mp h
  rw [Bool.eq_iff_iff, Bool.and_eq_true, fits_iff, fits_iff]
  constructor
  · intro g
    refine ⟨fun k y e => ?_, decide_eq_true (g q x (by rw [List.getElem?_set_self hl])).symm⟩
    have : q ≠ k := fun z => by rw [← z, h] at e; cases e
    exact g k y (by rw [List.getElem?_set_ne this]; exact e)
  · rintro ⟨g1, g2⟩ k y e
    by_cases z : q = k
    · subst z
      rw [List.getElem?_set_self hl] at e
      cases e
      exact (of_decide_eq_true g2).symm
    · rw [List.getElem?_set_ne z] at e
      exact g1 k y e
theorem filter_fits {st : Stg} {q x : Nat} (h : st[q]? = some none) (D : List (List Nat)) : D.filter (fits (st.set q (some x))) = (D.filter (fits st)).filter (headIs q x) := by
  rw [List.filter_filter]
  refine List.filter_congr fun d _ => ?_
  rw [fits_set h, Bool.and_comm]
theorem unset {st : Stg} {q x : Nat} (h : st[q]? = some none) : (st.set q (some x)).set q none = st := by
  rw [List.set_set]
  obtain ⟨hl, e⟩ := List.getElem?_eq_some_iff.mp h
  rw [← e, List.set_getElem_self]
/-- things stand where they may -/
def Pl (rows : List (List Nat)) (st : Stg) : Prop := ∀ (p x : Nat), st[p]? = some (some x) → ∃ r, rows[p]? = some r ∧ x ∈ r
/-- a standing on its way -/
structure Sn (rows : List (List Nat)) (t : List Nat) (D : List (List Nat)) (i : Nat) (st : Stg) : Prop where
  std : Std t rows.length i st
  pl : Pl rows st
  sm : Sm (t.drop i) ((t.drop i).map (rowOf rows)) (lm st) (D.filter (fits st))
  pos : 0 < cnt ((t.drop i).map (rowOf rows)) (lm st)
theorem Sn.start {rows : List (List Nat)} {t : List Nat} {D : List (List Nat)} (dd : Deals rows t D) (hc : 0 < cnt (t.map (rowOf rows)) (whole rows.length)) : Sn rows t D 0 (List.replicate rows.length none) := by
  have e : D.filter (fits (List.replicate rows.length none)) = D := List.filter_eq_self.mpr fun d _ => fits_none _ _
  refine ⟨Std.start dd.len dd.turn, fun p x e => ?_, ?_, ?_⟩
  · rw [List.getElem?_replicate] at e
    split at e <;> cases e
  · rw [e, lm_start _ dd.len, List.drop_zero]; exact dd.sm
  · rw [lm_start _ dd.len, List.drop_zero]; exact hc
theorem Sn.next {rows : List (List Nat)} {t : List Nat} {D : List (List Nat)} {i q x : Nat} {st : Stg} {r : List Nat} (S : Sn rows t D i st) (dd : Deals rows t D) (hi : t[i]? = some q) (hr : rows[q]? = some r) (hx : x ∈ opn r (lm st)) (h0 : 0 < cnt ((t.drop (i + 1)).map (rowOf rows)) (lm st - 2 ^ x)) : Sn rows t D (i + 1) (st.set q (some x)) := by
  obtain ⟨hxr, hxb⟩ := mem_opn.mp hx
  have hq := S.std.at_ hi
  have hsl : st.length ≤ 6 := by rw [S.std.len]; exact dd.len
  have hlm := lm_set hsl hq hxb
  have hdr : (t.drop i).map (rowOf rows) = r :: (t.drop (i + 1)).map (rowOf rows) := by rw [drop_at hi, List.map_cons, rowOf_eq hr]
  have sm := S.sm
  rw [hdr, drop_at hi] at sm
  refine ⟨S.std.next dd.len dd.turn hi hxb, fun p y e => ?_, ?_, by rw [hlm]; exact h0⟩
  · obtain ⟨hl, _⟩ := List.getElem?_eq_some_iff.mp hq
    by_cases z : q = p
    · subst z
      rw [List.getElem?_set_self hl] at e
      cases e
      exact ⟨r, hr, hxr⟩
    · rw [List.getElem?_set_ne z] at e
      exact S.pl p y e
  · rw [filter_fits hq, hlm]
    exact sm.step (dd.asc r (List.mem_of_getElem? hr)).nodup hx
theorem perm_all : ∀ {k l : List Nat}, k.Nodup → (∀ x ∈ k, x ∈ l) → l.length ≤ k.length → l.Perm k
  | [], l, _, _, h => by rw [List.eq_nil_of_length_eq_zero (Nat.le_zero.mp h)]
  | a :: k, l, hn, hs, h => by
    obtain ⟨h1, h2⟩ := List.nodup_cons.mp hn
    have ha := hs a List.mem_cons_self
    have p := List.perm_cons_erase ha
    refine p.trans ((perm_all h2 (fun x hx => ?_) ?_).cons a)
    · have := p.mem_iff.mp (hs x (List.mem_cons_of_mem _ hx))
      rcases List.mem_cons.mp this with z | z
      · exact absurd (z ▸ hx) h1
      · exact z
    · have := p.length_eq
      rw [List.length_cons] at this h
      omega
/-- a standing at the end is a dealing -/
theorem Sn.deal {rows : List (List Nat)} {t : List Nat} {D : List (List Nat)} {st : Stg} (S : Sn rows t D rows.length st) (dd : Deals rows t D) : ∃ d : List Nat, st.map oV = d.map iV ∧ IsTurn rows.length d ∧ ∀ (i : Nat) (r : List Nat) (x : Nat), rows[i]? = some r → d[i]? = some x → x ∈ r := by
  have hn : ∀ p, st[p]? ≠ some none := fun p z => by
    have := (S.std.non p).mp z
    rw [List.drop_eq_nil_of_le (by rw [turn_len dd.turn]; exact Nat.le_refl _)] at this
    cases this
  refine ⟨st.map fun o => o.getD 0, ?_, ?_, fun i r x hr hx => ?_⟩
  · rw [List.map_map]
    refine List.map_congr_left fun o ho => ?_
    obtain ⟨p, hp⟩ := List.getElem?_of_mem ho
    cases o with
    | none => exact absurd hp (hn p)
    | some x => rfl
  · have hl : st.length = rows.length := S.std.len
    have h0 := S.std.lms
    have hz : bitsOf (lm st) = [] := List.eq_nil_of_length_eq_zero (by omega)
    have all : ∀ x, x < rows.length → some x ∈ st := fun x hx => by
      have hb : ¬ (lm st).testBit x = true := fun z => by
        have := mem_bitsOf.mpr ⟨(by have := dd.len; omega : x < 6), z⟩
        rw [hz] at this; cases this
      rw [lm_bit (by rw [hl]; exact dd.len), decide_eq_true (by omega : x < st.length), Bool.true_and] at hb
      by_cases m : some x ∈ st
      · exact m
      · rw [decide_eq_false m] at hb; exact absurd rfl hb
    have sub : List.range rows.length ⊆ st.map fun o => o.getD 0 := fun x hx => List.mem_map.mpr ⟨some x, all x (List.mem_range.mp hx), rfl⟩
    exact perm_all List.nodup_range (fun x hx => sub hx) (by rw [List.length_map, List.length_range]; omega)
  · obtain ⟨o, ho, rfl⟩ := map_at hx
    cases o with
    | none => exact absurd ho (hn i)
    | some y =>
      obtain ⟨r', h1, h2⟩ := S.pl i y ho
      rw [hr] at h1; cases h1
      exact h2
end Fo
end
section
set_option Elab.async false
set_option linter.all false
set_option maxRecDepth 100000
set_option maxHeartbeats 8000000
set_option pp.maxSteps 600
namespace Fo
open PySem PySem.Spec PyProof.Rows L2 LamX NdefX
/-- entries with their weights -/
def Wx (S : Nat) (H : Hp) (xs : Ent) (L : List (Nat × Nat)) : Prop := Paired (fun (e : Stg × Addr × V) (l : Nat × Nat) => l.1 = lm e.1 ∧ l.2 ≤ S ∧ Fr H e.2.2 (redT l.2 S) (redB l.2 S)) xs L
theorem Wx.same {S : Nat} {H H' : Hp} {xs : Ent} {L : List (Nat × Nat)} (h : Wx S H xs L) (k : Same H H') : Wx S H' xs L := Paired.mapP h fun _ _ ⟨a, b, c⟩ => ⟨a, b, c.same k⟩
theorem Wx.x {S : Nat} {H H' : Hp} {xs : Ent} {L : List (Nat × Nat)} {b : Addr} (h : Wx S H xs L) (k : SmX b H H') (nb : ∀ xs, H b ≠ some (.tup xs)) : Wx S H' xs L := Paired.mapP h fun _ _ ⟨a, c, p, e, q⟩ => ⟨a, c, p, e, k _ _ (fun z => nb _ (z ▸ q)) q⟩
theorem nodup_take {α : Type} {l : List α} {i : Nat} {a : α} (h : l.Nodup) (e : l[i]? = some a) : a ∉ l.take i := fun m => by
  obtain ⟨hl, e1⟩ := List.getElem?_eq_some_iff.mp e
  have : l = l.take i ++ a :: l.drop (i + 1) := by
    have h2 := List.take_append_drop i l
    rw [List.drop_eq_getElem_cons hl, e1] at h2
    exact h2.symm
  rw [this] at h
  exact (List.nodup_append.mp h).2.2 a m a List.mem_cons_self rfl
theorem KvF.keys {H : Hp} {kvs : List (Key × V)} {fk : Nat → Option Nat} {s : Nat} (h : KvF H kvs fk s s) : ∃ ks : List Nat, kvs.map (·.1) = ks.map (fun (n : Nat) => (Sum.inl ((n : Nat) : Int) : Key)) ∧ ks.Nodup ∧ (∀ x, x ∈ ks ↔ 0 < cq fk x s) ∧
    ∀ (i n : Nat), ks[i]? = some n → ∃ v, kvs[i]? = some (.inl ((n : Nat) : Int), v) ∧ Fr H v (redT (cq fk n s) s) (redB (cq fk n s) s) := by
  have ex : ∀ l : List (Key × V), (∀ p ∈ l, p.1 ∈ dSet) → ∃ ks : List Nat, l.map (·.1) = ks.map (fun (n : Nat) => (Sum.inl ((n : Nat) : Int) : Key)) := fun l => by
    induction l with
    | nil => exact fun _ => ⟨[], rfl⟩
    | cons p l ih =>
      intro hl
      obtain ⟨ks, e⟩ := ih fun q hq => hl q (List.mem_cons_of_mem _ hq)
      obtain ⟨n, _, en⟩ := List.mem_map.mp (hl p List.mem_cons_self)
      exact ⟨n :: ks, by rw [List.map_cons, List.map_cons, e, ← en]⟩
  obtain ⟨ks, e⟩ := ex kvs h.1.2
  have hnd := h.1.1
  have inj : ∀ {a b : Nat}, (Sum.inl ((a : Nat) : Int) : Key) = .inl ((b : Nat) : Int) → a = b := fun z => by injection z with z; omega
  refine ⟨ks, e, ?_, fun x => ?_, fun i n hi => ?_⟩
  · rw [e] at hnd
    have := List.pairwise_map.mp hnd
    exact this.imp fun q z => q (by rw [z])
  · have m1 : x ∈ ks ↔ (Sum.inl ((x : Nat) : Int) : Key) ∈ kvs.map (·.1) := by
      rw [e, List.mem_map]
      exact ⟨fun z => ⟨x, z, rfl⟩, fun ⟨y, hy, z⟩ => by rw [← inj z]; exact hy⟩
    rw [m1]
    constructor
    · intro hm
      obtain ⟨p, hp, ep⟩ := List.mem_map.mp hm
      have := val_nodup hnd p hp
      rw [ep] at this
      rcases h.2 x with ⟨z, _⟩ | ⟨_, _, z, _⟩
      · rw [z] at this; cases this
      · exact z
    · intro hm
      rcases h.2 x with ⟨_, z⟩ | ⟨v, z, _, _⟩
      · omega
      · refine Classical.byContradiction fun q => ?_
        have : ∀ l : List (Key × V), (Sum.inl ((x : Nat) : Int) : Key) ∉ l.map (·.1) → valV l (.inl ((x : Nat) : Int)) = none := fun l => by
          induction l with
          | nil => exact fun _ => rfl
          | cons p l ih =>
            intro hl
            rw [List.map_cons, List.mem_cons, not_or] at hl
            rw [valV_neg (fun z => hl.1 z.symm)]
            exact ih hl.2
        rw [this kvs q] at z; cases z
  · have h1 : (kvs.map (·.1))[i]? = some (.inl ((n : Nat) : Int)) := by rw [e, List.getElem?_map, hi]; rfl
    obtain ⟨p, hp, ep⟩ := map_at h1
    obtain ⟨k, v⟩ := p
    have ep : (Sum.inl ((n : Nat) : Int) : Key) = k := ep
    subst ep
    have := val_nodup hnd _ (List.mem_of_getElem? hp)
    rcases h.2 n with ⟨z, _⟩ | ⟨v', z, _, z2⟩
    · rw [z] at this; cases this
    · rw [z] at this
      cases this
      exact ⟨v, hp, z2⟩
def spChances (K : PySem.W.Frag) (P : Program) (w : World) : Sp := fun vs H Q _ => ∃ (tb ta f : Addr) (rows : List (List Nat)) (t : List Nat) (D : List (List Nat)) (s : Nat), vs = [.ref tb, .ref ta, iV s, .ref f] ∧ Tab K H tb rows ∧ Deals rows t D ∧ 0 < rows.length ∧ 0 < cnt (t.map (rowOf rows)) (whole rows.length) ∧ Drw H f D s ∧ H ta = some (.tup (t.map iV)) ∧ 0 < s ∧ s ≤ 12 ∧
  ∀ H' p xs ep L, Same H H' → H' p = some (DN P w p xs ep) → KN H' xs → (∀ e ∈ xs, Sn rows t D rows.length e.1) → Wx (s ^ rows.length) H' xs L → Lv1 s [] (Ln (t.map (rowOf rows)) (whole rows.length) s) (fun φ => Al (t.map (rowOf rows)) (whole rows.length) s 1 φ) L → Q (.ref p) H'
section
variable {P : Program} {w : World} {K : PySem.W.Frag} {mg : Str → Option Value} {base : Heap}
theorem D_all_chances (T : Hd K mg) : Fn P w K mg base CX0 6 "all_chances" (spChances K P w) := by
  have D_nothing_drawn := fun {P w base} => D_nothing_drawn (P := P) (w := w) (base := base) T
  have D_throws := fun {P w base} => D_throws (P := P) (w := w) (base := base) T
  have D_addedN := fun {P w base} => D_addedN (P := P) (w := w) (base := base) T
  have D_times := fun {P w base} => D_times (P := P) (w := w) (base := base) T
  have D_after_draw := fun {P w base} => D_after_draw (P := P) (w := w) (base := base) T
  obtain ⟨fd, F⟩ := T.d_all_chances
  refine ⟨T.g_all_chances, T.p_all_chances, fd, ["table", "turn", "sides", "pick"], ?_, FunD.bindsN F fun _ _ _ _ _ _ us hl => match us, hl with | [_, _, _, _], _ => rfl⟩
  refine F.ok sc_all_chances (fun vs H Q E h => ?_) (fun cdv A outer s H vs Q E hr h => ⟨_, PSs.nox (have hu := hu_of hr; (pss_cons (ps_set (i := 4) sc_all_chances.nd rfl (.inl rfl) (pe_dispN hu (pe_fn D_nothing_drawn (hr.mono (by decide)) rfl pass0 (pa_cons (pv 0) pa_nil)) (pe_tup (pa_cons pe_int (pa_cons pe_int pa_nil)))))
      (pss_cons (ps_set (i := 5) sc_all_chances.nd rfl (.inl rfl) pe_dnewN)
      (pss_cons (ps_for PassesOwn.never rfl (pi_tup (pv 1)) (pg_name (i := 6) sc_all_chances.nd rfl (.inl rfl))
        (pss_cons (ps_set (i := 7) sc_all_chances.nd rfl (.inl rfl) pe_dnewN)
        (pss_cons (ps_for PassesOwn.never rfl (pi_ni (pv 4)) (pg_tup rfl (pgs_cons (pg_name (i := 8) sc_all_chances.nd rfl (.inl rfl)) (pgs_cons (pg_name (i := 9) sc_all_chances.nd rfl (.inl rfl)) pgs_nil)))
          (pss_one (ps_for PassesOwn.never rfl (pi_itemsL (pe_fn D_throws (hr.mono (by first | decide | omega)) rfl pass0 (pa_cons (pv 0) (pa_cons (pv 2) (pa_cons (pv 3) (pa_cons (pv 8) (pa_cons (pv 6) pa_nil))))))) (pg_tup rfl (pgs_cons (pg_name (i := 10) sc_all_chances.nd rfl (.inl rfl)) (pgs_cons (pg_name (i := 11) sc_all_chances.nd rfl (.inl rfl)) pgs_nil)))
            (pss_one (ps_if (pt_cmpR op_eq (pv 10) (pe_gs rfl T.k_STUCK) (nomark _))
              (pss_one (ps_expr (pe_fn D_addedN (hr.mono (by first | decide | omega)) rfl pass0 (pa_cons (pv 5) (pa_cons (pe_gs rfl T.k_STUCK) (pa_cons (pe_fn D_times (hr.mono (by first | decide | omega)) rfl pass0 (pa_cons (pv 9) (pa_cons (pv 11) pa_nil))) pa_nil))))))
              (pss_one (ps_expr (pe_fn D_addedN (hr.mono (by first | decide | omega)) rfl pass0 (pa_cons (pv 7) (pa_cons (pe_fn D_after_draw (hr.mono (by first | decide | omega)) rfl pass0 (pa_cons (pv 8) (pa_cons (pv 6) (pa_cons (pv 10) pa_nil)))) (pa_cons (pe_fn D_times (hr.mono (by first | decide | omega)) rfl pass0 (pa_cons (pv 9) (pa_cons (pv 11) pa_nil))) pa_nil)))))))))))
        (pss_one (ps_set (i := 4) sc_all_chances.nd rfl (.inl rfl) (pv 7))))))
      (pss_cons (ps_expr (pe_updN hu (pv 5) (pv 4) ⟨rfl, rfl, rfl, rfl⟩))
      (pss_one (ps_ret (pv 5)))))))), ?_⟩)
  · obtain ⟨_, _, _, _, _, _, _, rfl, _⟩ := h; rfl
  · obtain ⟨tb, ta, f, rows, t, D, s, rfl, htb, dd, hn0, hc0, hdr, hta, hs0, hs12, q⟩ := h
    have hn6 := dd.len
    have htn := dd.turn
    refine fun la hla => ?_
    refine ⟨_, rfl, tb, rows, rfl, htb.same (Same.new hla), hn0, by omega, fun H4 kp s4 hkp => ?_⟩
    refine ⟨sz2, fun op hop => ?_⟩
    have hla4 := s4 la _ upd_same
    have lao : la ≠ op := ne_of_none hla4 hop
    refine ⟨by rw [upd_ne lao]; exact hla4, kp, _, rfl, by rw [upd_ne (ne_of_none hkp hop)]; exact hkp, trivial, fun ep0 => ?_⟩
    generalize eH5 : upd (upd H4 op (.tup [.int 1, .int 1])) la (DN _ _ la _ ep0) = H5
    have s05 : Same H H5 := fun b u e => by
      subst eH5
      rw [upd_ne (ne_of_none e hla)]
      exact Same.new hop _ _ (s4 _ _ (by rw [upd_ne (ne_of_none e hla)]; exact e))
    have hla5 : H5 la = some (DN P w la [(List.replicate rows.length none, kp, .ref op)] ep0) := by subst eH5; exact upd_same
    have hkp5 : H5 kp = some (.tup ((List.replicate rows.length none : Stg).map oV)) := by
      subst eH5
      rw [upd_ne (ne_of hkp hla4 (fun z => nomatch z))]; exact Same.new hop _ _ hkp
    have hop5 : H5 op = some (.tup [.int 1, .int 1]) := by
      subst eH5
      rw [upd_ne lao.symm]; exact upd_same
    clear eH5 lao hla4 hop hkp s4
    refine fun da hda => ?_
    have hda0 : H da = none := by
      rcases hq : H da with _ | u
      · rfl
      · rw [s05 _ _ hq] at hda; cases hda
    have lda : la ≠ da := ne_of_none hla5 hda
    have s56 := Same.new (o := DN P w da [] 0) hda
    have s06 := Same.trans s05 s56
    have hrl : ∀ r ∈ rows, r.length ≤ 6 := fun r hr => by
      have := Asc.len (dd.asc r hr) (dd.lt r hr)
      omega
    have htl := turn_len htn
    have hpw : ∀ i, i ≤ 5 → s ^ i * s ≤ 2985984 := fun i hi => by
      have h1 : s ^ (i + 1) ≤ 12 ^ (i + 1) := Nat.pow_le_pow_left hs12 _
      have h2 : (12 : Nat) ^ (i + 1) ≤ 12 ^ 6 := Nat.pow_le_pow_right (by decide) (by omega)
      have h3 : (12 : Nat) ^ 6 = 2985984 := by decide
      rw [Nat.pow_succ] at h1
      omega
    refine ⟨_, rfl, ta, rfl, ⟨_, SqT.of (s06 _ _ hta)⟩, ?_⟩
    refine for_tup (xs := t.map iV) (fun i σ H6 => ∃ (la : Addr) (xs : Ent) (ep ed : Nat) (L : List (Nat × Nat)) (x6 x7 x8 x9 x10 x11 : Option V), σ = [some (.ref tb), some (.ref ta), some (iV s), some (.ref f), some (.ref la), some (.ref da), x6, x7, x8, x9, x10, x11] ∧ Same H H6 ∧ la ≠ da ∧ H6 da = some (DN P w da [] ed) ∧ H6 la = some (DN P w la xs ep) ∧ KN H6 xs ∧ (xs.map (·.1)).Nodup ∧
      (∀ e ∈ xs, Sn rows t D i e.1) ∧ xs.length ≤ 6 ^ i ∧ Wx (s ^ i) H6 xs L ∧ Lv1 s ((t.drop i).map (rowOf rows)) (Ln (t.map (rowOf rows)) (whole rows.length) s) (fun φ => Al (t.map (rowOf rows)) (whole rows.length) s 1 φ) L) ?_ ?_ ?_ ?_
    · refine ⟨la, _, ep0, 0, [(whole rows.length, 1)], _, _, _, _, _, _, rfl, s06, lda, upd_same, s56 _ _ hla5, fun x hx => by rw [List.mem_singleton.mp hx]; exact s56 _ _ hkp5, by simp, fun e he => by rw [List.mem_singleton.mp he]; exact Sn.start dd hc0, (show 1 ≤ 6 ^ 0 by decide), .cons ⟨(lm_start _ hn6).symm, Nat.le_refl _, op, rfl, by show upd H5 da (DN P w da [] 0) op = some (.tup [iV (redT 1 (s ^ 0)), iV (redB 1 (s ^ 0))]); rw [Nat.pow_zero, (red_one 1).1, (red_one 1).2]; exact s56 _ _ hop5⟩ .nil, ?_⟩
      rw [List.drop_zero]
      exact ⟨by unfold Sx; simp, fun φ => ⟨fun h => h _ List.mem_cons_self, fun h e he => by rw [List.mem_singleton.mp he]; exact h⟩⟩
    · rintro i σ H6 _ ⟨la, xs, ep, ed, L, x6, x7, x8, x9, x10, x11, rfl, s6, _⟩
      exact SqT.of (s6 _ _ hta)
    · rintro i v σ H6 hv ⟨la, xs, ep, ed, L, x6, x7, x8, x9, x10, x11, rfl, s6, lda, hd6, hl6, kn6, nd6, hS6, hxl, wx6, lv6⟩
      obtain ⟨p, hp, rfl⟩ := map_at hv
      have hi6 : i < 6 := by have := (List.getElem?_eq_some_iff.mp hp).1; omega
      have hpn : p < rows.length := (turn_lt htn).mp (List.mem_of_getElem? hp)
      have hrow : rows[p]? = some rows[p] := List.getElem?_eq_getElem hpn
      generalize rows[p] = r at hrow
      have hrm := List.mem_of_getElem? hrow
      have hdr' : (t.drop i).map (rowOf rows) = r :: (t.drop (i + 1)).map (rowOf rows) := by rw [drop_at hp, List.map_cons, rowOf_eq hrow]
      rw [hdr'] at lv6
      have hpwi := hpw i (by omega)
      refine fun lb hlb => ?_
      have lab : la ≠ lb := ne_of_none hl6 hlb
      have dab : da ≠ lb := ne_of_none hd6 hlb
      have hlb0 : H lb = none := by
        rcases hq : H lb with _ | u
        · rfl
        · rw [s6 _ _ hq] at hlb; cases hlb
      have sm7 := Same.new (o := DN P w lb [] 0) hlb
      refine ⟨_, rfl, la, xs, ep, rfl, sm7 _ _ hl6, ?_⟩
      refine for_it walk_ni (fun j σ H7 => ∃ (ys : Ent) (ep2 : Nat) (M : List (Nat × Nat)) (x8 x9 x10 x11 : Option V), σ = [some (.ref tb), some (.ref ta), some (iV s), some (.ref f), some (.ref la), some (.ref da), some (iV p), some (.ref lb), x8, x9, x10, x11] ∧ Same H H7 ∧ H7 da = some (DN P w da [] ed) ∧ H7 la = some (DN P w la xs ep) ∧ KN H7 xs ∧ Wx (s ^ i) H7 xs L ∧
        H7 lb = some (DN P w lb ys ep2) ∧ KN H7 ys ∧ (ys.map (·.1)).Nodup ∧ (∀ e ∈ ys, Sn rows t D (i + 1) e.1) ∧ ys.length ≤ 6 * j ∧ Wx (s ^ (i + 1)) H7 ys M ∧ (∀ k ∈ ys.map (·.1), k.set p none ∈ (xs.take j).map (·.1)) ∧
        Lv2 s r ((t.drop (i + 1)).map (rowOf rows)) (Ln (t.map (rowOf rows)) (whole rows.length) s) (fun φ => Al (t.map (rowOf rows)) (whole rows.length) s 1 φ) (L.drop j) M) ?_ ?_ ?_ ?_
      · exact ⟨[], 0, [], _, _, _, _, rfl, Same.trans s6 sm7, sm7 _ _ hd6, sm7 _ _ hl6, kn6.same sm7, wx6.same sm7, upd_same, fun x h => (nomatch h), List.nodup_nil, fun e h => (nomatch h), Nat.zero_le _, .nil, fun k h => (nomatch h), lv6.two⟩
      · rintro j σ H7 _ ⟨ys, ep2, M, x8, x9, x10, x11, _, _, _, h, _⟩
        exact h
      · rintro j v σ H7 H7' hj ⟨ys, ep2, M, x8, x9, x10, x11, rfl, s7, hd7, hl7, kn7, wx7, hb7, kb7, ndy, hSy, hyl, wy7, hun, lv7⟩ ⟨Tp, y, hy, rfl, hT, rfl⟩
        have hym := List.mem_of_getElem? hy
        have hkey := kn7 y hym
        have S := hS6 y hym
        have hsl : y.1.length ≤ 6 := by rw [S.std.len]; exact hn6
        have hq := S.std.at_ hp
        obtain ⟨⟨m, wt⟩, hl, em, hwS, hfr⟩ := paired_get wx7 hy
        have em : m = lm y.1 := em
        subst em
        have hdl : L.drop j = (lm y.1, wt) :: L.drop (j + 1) := by
          obtain ⟨h1, h2⟩ := List.getElem?_eq_some_iff.mp hl
          rw [List.drop_eq_getElem_cons h1, h2]
        rw [hdl] at lv7
        have smD := S.sm
        rw [hdr', drop_at hp] at smD
        have hcS := S.pos
        rw [hdr'] at hcS
        have s77 := Same.new (o := .tup [.ref y.2.1, y.2.2]) hT
        have s07 := Same.trans s7 s77
        refine ⟨Tp, _, rfl, SqT.of upd_same, rfl, _, _, rfl, _, _, rfl, rfl, ?_⟩
        have hDq : ∀ d ∈ D, d.length = y.1.length ∧ p < d.length ∧ d.getD p 0 < 6 := fun d hd => by
          obtain ⟨h1, h2⟩ := dd.vec d hd
          have hl : p < d.length := by omega
          refine ⟨by rw [S.std.len]; exact h1, hl, h2 _ ?_⟩
          rw [List.getD_eq_getElem?_getD, List.getElem?_eq_getElem hl]
          exact List.getElem_mem hl
        have hpk : ∀ k, k < s → ∃ x, pk (ops r ((t.drop (i + 1)).map (rowOf rows)) (lm y.1)) (k * (D.filter (fits y.1)).length / s) = some x ∧ x ∈ r ∧ x < rows.length ∧ some x ∉ y.1 := fun k hk => by
          rw [smD.len]
          obtain ⟨e, he, hp⟩ := pk_some (l := ops r ((t.drop (i + 1)).map (rowOf rows)) (lm y.1)) (a := k * cnt (r :: (t.drop (i + 1)).map (rowOf rows)) (lm y.1) / s) (by unfold tot; rw [sum_ops]; exact place_lt hk hcS)
          obtain ⟨x, c⟩ := e
          obtain ⟨h1, h2, h3⟩ := mem_ops.mp he
          obtain ⟨h4, h5⟩ := mem_opn.mp h1
          rw [lm_bit hsl, Bool.and_eq_true] at h5
          refine ⟨x, hp, h4, dd.lt r hrm x h4, fun z => ?_⟩
          have h6 := h5.2
          rw [decide_eq_true z] at h6; cases h6
        refine ⟨_, rfl, _, rfl, _, rfl, _, rfl, _, rfl, tb, f, y.2.1, rows, D, y.1, s, p, r, _, rfl, htb.same s07, hn6, hdr.same s07, dd.few, hDq, s77 _ _ hkey, hsl, hs0, hs12, hrow, by have := hrl r hrm; omega, fun ns ha hm => smD.shares (dd.asc r hrm) ha hm, hpk, fun H8 pd kvs hpd s8 hp8 kv8 => ⟨pd, .dK kvs, rfl, hp8, trivial, fun o => ⟨pd, o, kvs, rfl, upd_same, ?_⟩⟩⟩
        rw [smD.len] at kv8
        obtain ⟨ks, ek, ndk, hmk, hgk⟩ := kv8.keys
        have hlk : kvs.length = ks.length := by
          have := congrArg List.length ek
          rwa [List.length_map, List.length_map] at this
        have hqs : ∀ x, x ∈ ks ↔ 0 < qs r ((t.drop (i + 1)).map (rowOf rows)) (lm y.1) s x := hmk
        have hperm : ks.Perm (((ops r ((t.drop (i + 1)).map (rowOf rows)) (lm y.1)).filter fun e => decide (0 < qs r ((t.drop (i + 1)).map (rowOf rows)) (lm y.1) s e.1)).map (·.1)) := by
          refine perm_of_nodup ndk (((ops_nd (dd.asc r hrm).nodup _ _).sublist (List.Sublist.map _ List.filter_sublist))) fun x => ?_
          rw [hqs, List.mem_map]
          constructor
          · intro h0
            unfold qs qn at h0
            obtain ⟨k, hk⟩ := List.exists_mem_of_length_pos h0
            obtain ⟨c, hc⟩ := pk_mem (of_decide_eq_true (List.mem_filter.mp hk).2)
            exact ⟨(x, c), List.mem_filter.mpr ⟨hc, decide_eq_true h0⟩, rfl⟩
          · rintro ⟨e, he, rfl⟩
            exact of_decide_eq_true (List.mem_filter.mp he).2
        have lv8 := lv7.three hperm
        have hkl : ks.length ≤ 6 := by
          have := nodup_len ndk (k := r) fun x hx => by
            obtain ⟨e, he, rfl⟩ := List.mem_map.mp (hperm.mem_iff.mp hx)
            obtain ⟨x, c⟩ := e
            exact (mem_opn.mp (mem_ops.mp (List.mem_filter.mp he).1).1).1
          have := hrl r hrm
          omega
        have s78 := Same.trans s77 s8
        have hpd7 : H7 pd = none := by
          rcases hq : H7 pd with _ | u
          · rfl
          · rw [s77 _ _ hq] at hpd; cases hpd
        have smx : SmX pd H8 (upd H8 pd (.frz o (.dK kvs))) := SmX.put (SmX.refl pd _)
        have s79 : Same H7 (upd H8 pd (.frz o (.dK kvs))) := Same.mut s78 hpd7
        have hpb : pd ≠ lb := (ne_of_none hb7 hpd7).symm
        have s09 := Same.trans s7 s79
        have hfr9 : ∀ (e n : Nat), ks[e]? = some n → ∃ v, kvs[e]? = some (.inl ((n : Nat) : Int), v) ∧ Fr (upd H8 pd (.frz o (.dK kvs))) v (redT (qs r ((t.drop (i + 1)).map (rowOf rows)) (lm y.1) s n) s) (redB (qs r ((t.drop (i + 1)).map (rowOf rows)) (lm y.1) s n) s) := fun e n hn => by
          obtain ⟨v, h1, pv, h2, h3⟩ := hgk e n hn
          exact ⟨v, h1, pv, h2, smx _ _ (ne_of h3 hp8 (fun z => nomatch z)) h3⟩
        have hpd9 : upd H8 pd (.frz o (.dK kvs)) pd = some (.frz o (.dK kvs)) := upd_same
        generalize upd H8 pd (.frz o (.dK kvs)) = H9 at s79 s09 hfr9 hpd9
        refine for_it walk_items (fun e σ H10 => ∃ (ys : Ent) (ep2 : Nat) (M : List (Nat × Nat)) (x10 x11 : Option V), σ = [some (.ref tb), some (.ref ta), some (iV s), some (.ref f), some (.ref la), some (.ref da), some (iV p), some (.ref lb), some (.ref y.2.1), some y.2.2, x10, x11] ∧ Same H H10 ∧ H10 da = some (DN P w da [] ed) ∧ H10 la = some (DN P w la xs ep) ∧ KN H10 xs ∧ Wx (s ^ i) H10 xs L ∧
          H10 lb = some (DN P w lb ys ep2) ∧ KN H10 ys ∧ (ys.map (·.1)).Nodup ∧ (∀ e ∈ ys, Sn rows t D (i + 1) e.1) ∧ ys.length ≤ 6 * j + e ∧ Wx (s ^ (i + 1)) H10 ys M ∧ (∀ k ∈ ys.map (·.1), k.set p none ∈ (xs.take j).map (·.1) ∨ ∃ x ∈ ks.take e, k = y.1.set p (some x)) ∧
          H10 pd = some (.frz o (.dK kvs)) ∧ (∀ (e n : Nat), ks[e]? = some n → ∃ v, kvs[e]? = some (.inl ((n : Nat) : Int), v) ∧ Fr H10 v (redT (qs r ((t.drop (i + 1)).map (rowOf rows)) (lm y.1) s n) s) (redB (qs r ((t.drop (i + 1)).map (rowOf rows)) (lm y.1) s n) s)) ∧
          Lv3 s r ((t.drop (i + 1)).map (rowOf rows)) (Ln (t.map (rowOf rows)) (whole rows.length) s) (fun φ => Al (t.map (rowOf rows)) (whole rows.length) s 1 φ) (lm y.1) wt (ks.drop e) (L.drop (j + 1)) M) ?_ ?_ ?_ ?_
        · exact ⟨ys, ep2, M, _, _, rfl, s09, s79 _ _ hd7, s79 _ _ hl7, kn7.same s79, wx7.same s79, s79 _ _ hb7, kb7.same s79, ndy, hSy, by omega, wy7.same s79, fun k hk => .inl (hun k hk), hpd9, hfr9, lv8⟩
        · rintro e σ H10 _ ⟨ys, ep2, M, x10, x11, _, _, _, _, _, _, _, _, _, _, _, _, _, h, _⟩
          exact h
        · rintro e v σ H10 H10' he ⟨ys, ep2, M, x10, x11, rfl, s10, hd10, hl10, kn10, wx10, hb10, kb10, ndy, hSy, hyl, wy10, hun, hpd10, hfr10, lv10⟩ ⟨Tq, x, sh, rfl, hTq, rfl, hx, hsh⟩
          obtain ⟨n, hn⟩ : ∃ n, ks[e]? = some n := ⟨_, List.getElem?_eq_getElem (by omega)⟩
          obtain ⟨v1, hkv, hfv⟩ := hfr10 e n hn
          have hx : (kvs[e]?.map fun kv => kV kv.1) = some x := hx
          have hsh : kvs[e]?.map Prod.snd = some sh := hsh
          rw [hkv] at hx hsh
          cases hx
          cases hsh
          have hnm := List.mem_of_getElem? hn
          have s1011 := Same.new (o := .tup [iV n, v1]) hTq
          obtain ⟨eo, heo, en⟩ := List.mem_map.mp (hperm.mem_iff.mp hnm)
          obtain ⟨n', c⟩ := eo
          have en : n' = n := en
          subst en
          obtain ⟨hno, hcc, hc0'⟩ := mem_ops.mp (List.mem_filter.mp heo).1
          obtain ⟨hnr, hnb⟩ := mem_opn.mp hno
          have hqs0 := (hqs n').mp hnm
          have hqle : qs r ((t.drop (i + 1)).map (rowOf rows)) (lm y.1) s n' ≤ s := cq_le _ _ _
          have hsp : 0 < s ^ i := Nat.pow_pos hs0
          have hwS' : wt ≤ s ^ i := hwS
          have hdk : ks.drop e = n' :: ks.drop (e + 1) := by
            obtain ⟨h1, h2⟩ := List.getElem?_eq_some_iff.mp hn
            rw [List.drop_eq_getElem_cons h1, h2]
          rw [hdk] at lv10
          obtain ⟨l2, hl2, _, _, hfw⟩ := paired_get wx10 hy
          rw [hl] at hl2
          cases hl2
          generalize hq0 : qs r ((t.drop (i + 1)).map (rowOf rows)) (lm y.1) s n' = qn at hfv hqs0 hqle
          have hkn : y.1.set p (some n') ∉ ys.map (·.1) := fun hm => by
            rcases hun _ hm with z | ⟨x, hx, z⟩
            · rw [unset hq, List.map_take] at z
              exact nodup_take nd6 (at_map hy) z
            · have h1 := congrArg (fun l : Stg => l[p]?) z
              obtain ⟨hpl, _⟩ := List.getElem?_eq_some_iff.mp hq
              simp only [List.getElem?_set_self hpl] at h1
              have : n' = x := Option.some.inj (Option.some.inj h1)
              subst this
              exact nodup_take ndk hn hx
          have hnone := getN_none.mpr hkn
          refine ⟨Tq, _, rfl, SqT.of upd_same, rfl, _, _, rfl, _, _, rfl, rfl, ?_⟩
          refine ⟨_, rfl, rfl, false, congrArg V.bl (decide_eq_false (fun z => nomatch z)), iteF ?_⟩
          refine ⟨_, rfl, _, rfl, _, rfl, _, rfl, y.2.1, y.1, p, n', rfl, s1011 _ _ (kn10 y hym), by rw [S.std.len]; exact hpn, by omega, fun H12 kp12 s12 h12 => ?_⟩
          have s1012 := Same.trans s1011 s12
          have hprod := Nat.mul_le_mul (redB_le (a := wt) (b := s ^ i)) (redB_le (a := qn) (b := s))
          have hbp := Nat.mul_pos (redB_pos (a := wt) hsp) (redB_pos (a := qn) hs0)
          have hti := redT_le (a := wt) (b := s ^ i)
          have hbi := redB_le (a := wt) (b := s ^ i)
          have hss : s ^ i * 1 ≤ s ^ i * s := Nat.mul_le_mul_left _ hs0
          refine ⟨_, rfl, _, rfl, y.2.2, v1, redT wt (s ^ i), redB wt (s ^ i), redT qn s, redB qn s, rfl, hfw.same s1012, hfv.same s1012, by omega, by omega, hbp, by omega, fun H13 p13 hp13 s13 h13 => ?_⟩
          rw [(red_prod (w := wt) (q := qn) hs0 hsp).1, (red_prod (w := wt) (q := qn) hs0 hsp).2, ← Nat.pow_succ] at h13
          have s1013 := Same.trans s1012 s13
          have hb13 := s1013 _ _ hb10
          have hS' : 0 < s ^ (i + 1) := Nat.pow_pos hs0
          have hS'' : s ^ (i + 1) ≤ 2985984 := by rw [Nat.pow_succ]; exact hpwi
          have hwq : wt * qn ≤ s ^ (i + 1) := by rw [Nat.pow_succ]; exact Nat.mul_le_mul hwS' hqle
          have htw := redT_le (a := wt * qn) (b := s ^ (i + 1))
          have hbw := redB_le (a := wt * qn) (b := s ^ (i + 1))
          have hbw0 := redB_pos (a := wt * qn) hS'
          have h6i : (6 : Nat) ^ i ≤ 6 ^ 5 := Nat.pow_le_pow_right (by decide) (by omega)
          have h65 : (6 : Nat) ^ 5 = 7776 := by decide
          have hjl : j < xs.length := hj
          refine ⟨lb, ys, ep2, kp12, y.1.set p (some n'), .ref p13, 0, 1, redT (wt * qn) (s ^ (i + 1)), redB (wt * qn) (s ^ (i + 1)), rfl, hb13, kb10.same s1013, s13 _ _ h12, by rw [hnone]; exact ⟨rfl, rfl⟩, ⟨p13, rfl, h13⟩, by omega, by omega, by omega, by omega, by omega, by rw [sizeLine_eq]; omega, fun H14 p14 ep' sx h14 hlb14 => ?_⟩
          rw [(red_idem hS').1, (red_idem hS').2] at h14
          rw [putN_new _ _ hnone] at hlb14
          have hlb14 : H14 lb = some (DN P w lb (ys ++ [(y.1.set p (some n'), kp12, .ref p14)]) ep') := hlb14
          have nt : ∀ xs, H13 lb ≠ some (.tup xs) := fun xs z => by rw [hb13] at z; cases z
          have kt : ∀ b xs, H10 b = some (.tup xs) → H14 b = some (.tup xs) := fun b xs e => sx _ _ (fun z => nt xs (by rw [← z]; exact s1013 _ _ e)) (s1013 _ _ e)
          have hk14 : H14 kp12 = some (.tup ((y.1.set p (some n')).map oV)) := sx _ _ (fun z => nt _ (by rw [← z]; exact s13 _ _ h12)) (s13 _ _ h12)
          have Sn' := S.next dd hp hrow hno (by rw [← hcc]; exact hc0')
          refine ⟨ys ++ [(y.1.set p (some n'), kp12, .ref p14)], ep', M ++ [(lm y.1 - 2 ^ n', wt * qn)], some (iV n'), some v1, rfl, same_fresh hlb0 (Same.trans s10 s1013) sx, sx _ _ dab (s1013 _ _ hd10), sx _ _ lab (s1013 _ _ hl10), kn10.keep kt, (wx10.same s1013).x sx nt, hlb14, ?_, ?_, fun e' he' => ?_, ?_, ?_, fun k hk => ?_, sx _ _ hpb (s1013 _ _ hpd10), fun e' n2 hn2 => ?_, ?_⟩
          · have := kn_put (k := y.1.set p (some n')) (b := kp12) (v := .ref p14) (kb10.keep kt) hk14
            rwa [putN_new _ _ hnone] at this
          · rw [List.map_append]
            exact List.nodup_append.mpr ⟨ndy, by simp, fun a ha b hb z => hkn (by rw [List.mem_singleton.mp hb] at z; rw [← show a = y.1.set p (some n') from z]; exact ha)⟩
          · rcases List.mem_append.mp he' with z | z
            · exact hSy e' z
            · rw [List.mem_singleton.mp z]; exact Sn'
          · rw [List.length_append]; show ys.length + 1 ≤ _; omega
          · exact Paired.snoc ((wy10.same s1013).x sx nt) ⟨(lm_set hsl hq hnb).symm, hwq, p14, rfl, h14⟩
          · rw [List.map_append] at hk
            rcases List.mem_append.mp hk with z | z
            · rcases hun k z with z | ⟨x, hx, z⟩
              · exact .inl z
              · exact .inr ⟨x, by rw [take_snoc hn]; exact List.mem_append_left _ hx, z⟩
            · exact .inr ⟨n', by rw [take_snoc hn]; exact List.mem_append_right _ List.mem_cons_self, List.mem_singleton.mp z⟩
          · obtain ⟨v, h1, pv, h2, h3⟩ := hfr10 e' n2 hn2
            exact ⟨v, h1, pv, h2, kt _ _ h3⟩
          · rw [← hq0]; exact lv10.step
        · rintro σ H10 ⟨ys, ep2, M, x10, x11, rfl, s10, hd10, hl10, kn10, wx10, hb10, kb10, ndy, hSy, hyl, wy10, hun, hpd10, hfr10, lv10⟩
          rw [hlk, List.drop_length] at lv10
          refine ⟨ys, ep2, M, _, _, _, _, rfl, s10, hd10, hl10, kn10, wx10, hb10, kb10, ndy, hSy, by omega, wy10, fun k hk => ?_, lv10.two⟩
          rw [take_snoc hy, List.map_append]
          rcases hun k hk with z | ⟨x, _, z⟩
          · exact List.mem_append_left _ z
          · rw [z, unset hq]; exact List.mem_append_right _ (by simp)
      · rintro σ H7 ⟨ys, ep2, M, x8, x9, x10, x11, rfl, s7, hd7, hl7, kn7, wx7, hb7, kb7, ndy, hSy, hyl, wy7, hun, lv7⟩
        have hLl : xs.length = L.length := Paired.length wx7
        rw [hLl, List.drop_length] at lv7
        refine ⟨_, rfl, lb, ys, ep2, ed, M, _, _, _, _, _, _, rfl, s7, dab.symm, hd7, hb7, kb7, ndy, hSy, ?_, wy7, lv7.one⟩
        rw [Nat.pow_succ]; omega
    · rintro σ H6 ⟨la, xs, ep, ed, L, x6, x7, x8, x9, x10, x11, rfl, s6, lda, hd6, hl6, kn6, nd6, hS6, hxl, wx6, lv6⟩
      rw [List.length_map, htl] at hS6 wx6 lv6
      rw [List.drop_eq_nil_of_le (by omega), List.map_nil] at lv6
      have full : ∀ e ∈ xs, ∃ d : List Nat, e.1 = d.map some ∧ d.Perm (List.range rows.length) := fun e he => by
        obtain ⟨d, h1, h2, _⟩ := (hS6 e he).deal dd
        refine ⟨d, mapoV_inj (h1.trans ?_), h2⟩
        rw [List.map_map]; rfl
      refine ⟨_, rfl, ⟨da, rfl, ed, hd6⟩, _, rfl, da, la, xs, ep, ed, rfl, rfl, lda.symm, hd6, hl6, kn6, ?_, fun ep' => ?_⟩
      · rw [List.Nodup, List.pairwise_map]
        rw [List.Nodup, List.pairwise_map] at nd6
        refine nd6.imp_of_mem fun {a b} ha hb hab e => ?_
        obtain ⟨d1, e1, p1⟩ := full a ha
        obtain ⟨d2, e2, p2⟩ := full b hb
        rw [e1, e2, hash_eq, hash_eq] at e
        exact hab (by rw [e1, e2, hd_inj hn6 p1 p2 e])
      · have nt : ∀ xs, H6 da ≠ some (.tup xs) := fun xs z => by rw [hd6] at z; cases z
        exact ⟨_, rfl, q _ da xs ep' L (Same.mut s6 hda0) upd_same (kn6.keep fun b xs e => by rw [upd_ne (fun z => nt xs (by rw [← z]; exact e))]; exact e) hS6 (wx6.x (SmX.put (SmX.refl da _)) nt) lv6⟩
end
end Fo
end
section
set_option Elab.async false
set_option linter.all false
set_option maxRecDepth 100000
set_option maxHeartbeats 8000000
set_option pp.maxSteps 600
namespace Fo
open PySem PySem.Spec PyProof.Rows L2 LamX NdefX
def spCheckDrawer (K : PySem.W.Frag) : Sp := fun vs H Q _ => ∃ (tb : Addr) (rows : List (List Nat)) (t : List Nat) (x : V) (s : Nat), vs = [.ref tb, x, iV s] ∧ Tab K H tb rows ∧ rows.length ≤ 6 ∧ Sml rows ∧ TurnAt H x rows.length t ∧ Deal rows ∧ 0 < s ∧ s ≤ 12 ∧ ∀ H', Same H H' → Q .non H'
def spDrawerEven (K : PySem.W.Frag) : Sp := fun vs H Q _ => ∃ (tb ta f : Addr) (rows : List (List Nat)) (t : List Nat) (D : List (List Nat)) (s : Nat), vs = [.ref tb, .ref ta, iV s, .ref f] ∧ Tab K H tb rows ∧ RowsOk rows ∧ Sml rows ∧ Deals rows t D ∧ 0 < rows.length ∧ 0 < cnt rows (whole rows.length) ∧ Drw H f D s ∧ H ta = some (.tup (t.map iV)) ∧ 0 < s ∧ s ≤ 12 ∧
  ∀ H', Same H H' → Q (.bl (decide (lsd (t.map (rowOf rows)) (whole rows.length) ∣ s))) H'
section
variable {P : Program} {w : World} {K : PySem.W.Frag} {mg : Str → Option Value} {base : Heap}
theorem D_check_drawer (T : Hd K mg) (TX : Hx K mg) (DM : ∀ {w : World} {base : Heap}, Fn P w K mg base (L2N.CX P w) 3 "check_many" (spManyC K)) : Fn P w K mg base CX0 7 "check_drawer" (spCheckDrawer K) := by
  have D_check_turn := fun {P w base} => D_check_turn (P := P) (w := w) (base := base) T TX
  have D_check_stuck := fun {P w base} => D_check_stuck (P := P) (w := w) (base := base) T TX
  have D_check_number := fun {P w base} => D_check_number (P := P) (w := w) (base := base) T
  obtain ⟨fd, F⟩ := T.d_check_drawer
  refine ⟨T.g_check_drawer, T.p_check_drawer, fd, ["table", "turn", "sides"], ?_, FunD.bindsN F fun _ _ _ _ _ _ us hl => match us, hl with | [_, _, _], _ => rfl⟩
  refine F.ok sc_check_drawer (fun vs H Q E h => ?_) (fun cdv A outer s H vs Q E hr h => ⟨_, PSs.nox (pss_cons (ps_expr (pe_fn D_check_turn (hr.mono (by first | decide | omega)) rfl passN (pa_cons (pv 0) (pa_cons (pv 1) pa_nil))))
      (pss_cons (ps_expr (pe_fn D_check_number (hr.mono (by first | decide | omega)) rfl pass0 (pa_cons (pv 2) (pa_cons pe_int (pa_cons (pe_gc rfl T.k_MOST_SIDES) pa_nil)))))
      (pss_cons (ps_expr (pe_fn D_check_stuck (hr.mono (by first | decide | omega)) rfl passN (pa_cons (pv 0) pa_nil)))
      (pss_one (ps_expr (pe_fn DM (hr.mono (by first | decide | omega)) rfl passN (pa_cons (pe_fld (pv 0) rfl) (pa_cons (pe_gc rfl T.k_MOST_PEOPLE_strangers) pa_nil)))))))), ?_⟩)
  · obtain ⟨_, _, _, _, _, rfl, _⟩ := h; rfl
  · obtain ⟨tb, rows, t, x, s, rfl, htb, hn6, hsm, htt, hde, hs0, hs12, q⟩ := h
    refine ⟨_, rfl, _, rfl, tb, rows, _, rfl, htb, by omega, .inl ⟨t, htt, fun H1 s1 => ?_⟩⟩
    refine ⟨_, rfl, _, 1, 12, rfl, by omega, by omega, ?_⟩
    refine ⟨_, rfl, tb, rows, rfl, htb.same s1, hsm, fun H2 s2 _ => ?_, fun H2 s2 z => absurd hde z⟩
    obtain ⟨C, dx, ra, g1, hC, nr, ns, hrw⟩ := ((htb.same s1).same s2).rd T
    exact ⟨_, rfl, tb, C, dx, _, _, rfl, g1, hC, ns, rfl, _, _, rfl, fun _ => q _ (Same.trans s1 s2), fun z => absurd z (by omega)⟩
theorem D_drawer_even (T : Hd K mg) (TX : Hx K mg) (DM : ∀ {w : World} {base : Heap}, Fn P w K mg base (L2N.CX P w) 3 "check_many" (spManyC K)) : Fn P w K mg base CX0 18 "drawer_even" (spDrawerEven K) := by
  have D_check_drawer := fun {w base} => D_check_drawer (P := P) (w := w) (base := base) T TX DM
  have D_all_chances := fun {P w base} => D_all_chances (P := P) (w := w) (base := base) T
  have D_many_dealings := fun {P w base} => D_many_dealings (P := P) (w := w) (base := base) T
  have D_is_dealing := fun {P w base} => D_is_dealing (P := P) (w := w) (base := base) T
  obtain ⟨fd, F⟩ := T.d_drawer_even
  refine ⟨T.g_drawer_even, T.p_drawer_even, fd, ["table", "turn", "sides", "pick"], ?_, FunD.bindsN F fun _ _ _ _ _ _ us hl => match us, hl with | [_, _, _, _], _ => rfl⟩
  refine F.ok sc_drawer_even (fun vs H Q E h => ?_) (fun cdv A outer s H vs Q E hr h => ⟨_, PSs.nox (have hu := hu_of hr; (pss_cons (ps_expr (pe_fn D_check_drawer (hr.mono (by first | decide | omega)) rfl pass0 (pa_cons (pv 0) (pa_cons (pv 1) (pa_cons (pv 2) pa_nil)))))
      (pss_cons (ps_set (i := 4) sc_drawer_even.nd rfl (.inl rfl) (pe_fn D_all_chances (hr.mono (by first | decide | omega)) rfl pass0 (pa_cons (pv 0) (pa_cons (pv 1) (pa_cons (pv 2) (pa_cons (pv 3) pa_nil))))))
      (pss_cons (ps_set (i := 5) sc_drawer_even.nd rfl (.inr rfl) (pe_fn D_many_dealings (hr.mono (by first | decide | omega)) rfl pass0 (pa_cons (pv 0) pa_nil)))
      (pss_cons (ps_if (PW.pt (pw_or (pt_cmpR op_ne (pe_callB cr_lenN rfl T.f_len bt_len (pa_cons (pv 4) pa_nil)) (pv 5) (nomark _)) (pw_or1 (pt_not (pt_val (pe_callB (cr_all rfl) rfl T.f_all bt_all (pa_cons (pe_lc (own := [("thing", 6)]) rfl sc_drawer_even.nd (pi_nk (pv 4)) (blkOk_by (own := [("thing", 6)]) (N := n_drawer_even) (sc := defScope s_drawer_even) (by decide +kernel)) (fun _ _ _ _ _ => (pg_name (i := 6) sc_drawer_even.nd rfl (.inl rfl))) (fun _ _ _ _ _ => pts_nil) (fun _ _ _ _ _ => (pe_fn D_is_dealing (hr.mono (by first | decide | omega)) rfl pass0 (pa_cons (pv 0) (pa_cons (pv 6) pa_nil))))) pa_nil)))))))
        (pss_one (ps_ret pe_bl))
        pss_nil)
      (pss_one (ps_ret (pe_callB (cr_all rfl) rfl T.f_all bt_all (pa_cons (pe_lc (own := [("part", 7)]) rfl sc_drawer_even.nd (pi_nv (pv 4)) (blkOk_by (own := [("part", 7)]) (N := n_drawer_even) (sc := defScope s_drawer_even) (by decide +kernel)) (fun _ _ _ _ _ => (pg_name (i := 7) sc_drawer_even.nd rfl (.inl rfl))) (fun _ _ _ _ _ => pts_nil) (fun _ _ _ _ _ => (pe_cmpR (op_eqDK (K := K) hr.units) (pv 7) (pe_tup (pa_cons pe_int (pa_cons (pv 5) pa_nil))) (nomark _)))) pa_nil))))))))), ?_⟩)
  · obtain ⟨_, _, _, _, _, _, _, rfl, _⟩ := h; rfl
  · obtain ⟨tb, ta, f, rows, t, D, s, rfl, htb, ro, hsm, dd, hn0, hc0, hdr, hta, hs0, hs12, q⟩ := h
    have hde : Deal rows := (deal_cnt ro.lt).mpr hc0
    have htt : TurnAt H (.ref ta) rows.length t := ⟨ta, rfl, hta, dd.turn⟩
    have hcp : cnt (t.map (rowOf rows)) (whole rows.length) = cnt rows (whole rows.length) := by
      have h1 := dd.turn.map (rowOf rows)
      rw [map_rowOf] at h1
      exact cnt_perm h1 _
    refine ⟨_, rfl, _, rfl, _, rfl, tb, rows, t, _, s, rfl, htb, dd.len, hsm, htt, hde, hs0, hs12, fun H1 s1 => ?_⟩
    refine ⟨_, rfl, _, rfl, _, rfl, _, rfl, tb, ta, f, rows, t, D, s, rfl, htb.same s1, dd, hn0, by rw [hcp]; exact hc0, hdr.same s1, s1 _ _ hta, hs0, hs12, fun H2 p xs ep L s2 hp kn hS wx lv => ?_⟩
    refine ⟨_, rfl, tb, rows, rfl, (htb.same s1).same s2, ro, fun H3 s3 => ?_⟩
    have s03 : Same H H3 := Same.trans s1 (Same.trans s2 s3)
    have hp3 := s3 _ _ hp
    have kn3 := kn.same s3
    have wx3 := wx.same s3
    have htb3 := htb.same s03
    have hxL : xs.length = L.length := Paired.length wx
    have hLn : L.length = Ln (t.map (rowOf rows)) (whole rows.length) s := lv.len
    have hdw := drawer (rs := t.map (rowOf rows)) (m := whole rows.length) (s := s) (fun r hr => by
      obtain ⟨p, hp, rfl⟩ := List.mem_map.mp hr
      have hpl := (turn_lt dd.turn).mp hp
      have : rows[p]? = some rows[p] := List.getElem?_eq_getElem hpl
      rw [rowOf_eq this]
      exact ro.nd _ (List.getElem_mem hpl)) hs0 (by rw [hcp]; exact hc0)
    rw [hcp, List.length_map, turn_len dd.turn] at hdw
    have hS0 : 0 < s ^ rows.length := Nat.pow_pos hs0
    refine ⟨_, rfl, p, xs, ep, rfl, hp3, kn3, _, rfl, rfl, !decide (xs.length = cnt rows (whole rows.length)), congrArg V.bl (congrArg (!·) (iV_eq _ _)), ?_⟩
    by_cases hlen : xs.length = cnt rows (whole rows.length)
    · rw [decide_eq_true hlen]
      refine iteF ?_
      refine ⟨_, rfl, p, xs, ep, rfl, hp3, fun D1 hD1 => ?_⟩
      have hxs : xs.length ≤ 46656 := by
        have hrl : ∀ r ∈ rows, r.length ≤ 6 := fun r hr => by
          have := Asc.len (dd.asc r hr) (dd.lt r hr)
          have := dd.len
          omega
        have h1 := cnt_le (k := 6) (rs := rows) (m := whole rows.length) hrl
        have h2 : (6 : Nat) ^ rows.length ≤ 6 ^ 6 := Nat.pow_le_pow_right (by decide) dd.len
        have h3 : (6 : Nat) ^ 6 = 46656 := by decide
        omega
      have hzs : xs.length < sizeLine := by rw [sizeLine_eq]; omega
      refine lc_same walk_nk hD1 (fun i acc _ => acc = (xs.take i).map fun _ => V.bl true) hzs (fun H' k => k _ _ hp3) (fun _ _ _ _ _ _ _ h => h) rfl ?_ ?_
      · rintro i v H4 H' acc Fin Skip hi hla k rr ⟨rfl, y, hy, rfl⟩ fin skip
        have hym := List.mem_of_getElem? hy
        obtain ⟨d, hd1, hd2, hd3⟩ := (hS y hym).deal dd
        have hkey := k _ _ (kn3 y hym)
        rw [hd1] at hkey
        refine ⟨rfl, _, rfl, _, rfl, tb, y.2.1, rows, d, rfl, htb3.same k, by have := dd.len; omega, fun r hr => (hsm.2 r hr).1, hkey, hd2, hd3, fun H5 s5 => fin _ _ s5 ?_⟩
        rw [rr, take_snoc hy, List.map_append]; rfl
      · intro H4 acc s4 hla hacc rr
        rw [List.take_length] at rr
        refine ⟨D1, xs.map fun _ => true, rfl, SqL.of (by rw [hacc, rr, List.map_map]; rfl), _, rfl, ?_⟩
        have hall : ((xs.map fun _ => true).all id) = true := by
          rw [List.all_eq_true]
          intro b hb
          obtain ⟨_, _, rfl⟩ := List.mem_map.mp hb
          rfl
        rw [hall]
        refine iteF ?_
        have hp4 := s4 _ _ hp3
        have wx4 := wx3.same s4
        have s04 := Same.trans s03 s4
        refine ⟨_, rfl, p, xs, ep, rfl, hp4, fun D2 hD2 => ?_⟩
        refine lc_same walk_nv hD2 (fun i acc _ => acc = (L.take i).map fun l => V.bl (decide (redT l.2 (s ^ rows.length) = 1 ∧ redB l.2 (s ^ rows.length) = cnt rows (whole rows.length)))) hzs (fun H' k => k _ _ hp4) (fun _ _ _ _ _ _ _ h => h) rfl ?_ ?_
        · rintro i v H5 H' acc Fin Skip hi hla k rr ⟨rfl, y, hy, rfl⟩ fin skip
          obtain ⟨l, hl, _, _, pv, epv, hpv⟩ := paired_get wx4 hy
          refine ⟨rfl, _, rfl, _, rfl, sz2, fun tp htp => ?_⟩
          have hnew := Same.new (o := .tup [.int 1, iV (cnt rows (whole rows.length))]) htp
          rw [epv]
          refine eqP_pair (hnew _ _ (k _ _ hpv)) upd_same (fin _ _ hnew ?_)
          rw [rr, take_snoc hl, List.map_append]
          have : decide (((redT l.2 (s ^ rows.length) : Nat) : Int) = 1 ∧ ((redB l.2 (s ^ rows.length) : Nat) : Int) = ((cnt rows (whole rows.length) : Nat) : Int)) = decide (redT l.2 (s ^ rows.length) = 1 ∧ redB l.2 (s ^ rows.length) = cnt rows (whole rows.length)) := decide_eq_decide.mpr ⟨fun z => ⟨by omega, by omega⟩, fun z => ⟨by omega, by omega⟩⟩
          rw [this]; rfl
        · intro H5 acc s5 hla hacc rr
          rw [hxL, List.take_length] at rr
          refine ⟨D2, L.map fun l => decide (redT l.2 (s ^ rows.length) = 1 ∧ redB l.2 (s ^ rows.length) = cnt rows (whole rows.length)), rfl, SqL.of (by rw [hacc, rr, List.map_map]; rfl), ?_⟩
          have hfin : ((L.map fun l => decide (redT l.2 (s ^ rows.length) = 1 ∧ redB l.2 (s ^ rows.length) = cnt rows (whole rows.length))).all id) = decide (lsd (t.map (rowOf rows)) (whole rows.length) ∣ s) := by
            rw [Bool.eq_iff_iff, decide_eq_true_iff, ← hdw, List.all_eq_true]
            have hA := lv.al (fun l => l * cnt rows (whole rows.length) = s ^ rows.length)
            constructor
            · intro h
              refine ⟨by rw [← hLn, ← hxL, hlen], hA.mp fun e he => ?_⟩
              have := h _ (List.mem_map.mpr ⟨e, he, rfl⟩)
              exact (red_unit hS0 hc0).mp (of_decide_eq_true this)
            · rintro ⟨_, h⟩ b hb
              obtain ⟨e, he, rfl⟩ := List.mem_map.mp hb
              exact decide_eq_true ((red_unit hS0 hc0).mpr (hA.mpr h e he))
          rw [hfin]
          exact q H5 (Same.trans s04 s5)
    · rw [decide_eq_false hlen]
      refine iteT ?_
      have : decide (lsd (t.map (rowOf rows)) (whole rows.length) ∣ s) = false := decide_eq_false fun z => hlen (by rw [hxL, hLn]; exact (hdw.mpr z).1)
      have qq := q H3 s03
      rw [this] at qq
      exact qq
end
end Fo
end
section
set_option Elab.async false
set_option linter.all false
set_option maxRecDepth 100000
set_option maxHeartbeats 8000000
set_option pp.maxSteps 600
namespace Fo
open PySem PySem.Spec PyProof.Rows L2 LamX NdefX
abbrev s_Tm : Stmt := inClass (top 5) 0
theorem sc_Tm : NScope nTm ["self", "most"] ["__class__"] (defScope s_Tm) := nscope_by (by decide +kernel)
section
variable {P : Program} {w : World} {K : PySem.W.Frag} {mg : Str → Option Value} {base : Heap} {C fI : Addr}
theorem D_Tm_init (T : TmK P K s_Tm C fI) : ∃ fd, FnOk P w K mg base CX0 1 fI fd ["self", "most"] (spTm C) ∧ Binds K fd ["self", "most"] [] := by
  obtain ⟨cda, cc, oc, od, kV, doc, pm, an, ct, osl, ccl, cl, cdd, cld, vs0, ccs, csl, file, tf, lkf, hcd, lkc, hvs, hfile, lkcell⟩ := T.fn
  refine ⟨PySem.W.ksFn "__init__" tmName (defArgs s_Tm) (defBody s_Tm) (defScope s_Tm) .none kV doc pm an (.ref cda) ct cc, ?_, .all (fun us hl => match us, hl with | [_, _], _ => rfl)⟩
  refine ⟨fun vs H Q E h => by obtain ⟨_, _, rfl, _⟩ := h; rfl, fun A outer s H args us vs Q E hr e0 hb r hsp => ?_⟩
  obtain ⟨a, y, rfl, hexo, q⟩ := hsp
  have KX : K.In s.heap := e0.mod.kin.keeps fun b o e => (e0.bs b o e).1
  have lim : s.heap.NoLimit := e0.mod.nolimit.keeps fun b o e => (e0.bs b o e).1
  obtain ⟨u1, rest, rfl, r1, r2⟩ : ∃ u1 rest, us = u1 :: rest ∧ L2.RelV (.ref a) u1 ∧ Vals [y] rest := by
    cases r with
    | cons a b => exact ⟨_, _, rfl, a, b⟩
  obtain ⟨u2, rfl, ry⟩ := r2.one
  obtain rfl : u1 = Value.ref a := r1
  refine PySem.ks_codeAny_call_defAt (fd := PySem.W.ksFn "__init__" tmName (defArgs s_Tm) (defBody s_Tm) (defScope s_Tm) .none kV doc pm an (.ref cda) ct cc) (body := defBody s_Tm) (binds := [("self", .ref a), ("most", u2)]) hr.depth (KX _ _ lkf) rfl lim (PySem.W.codeRec_of KX hcd) rfl hb (fun y hy => sc_Tm.nocell y hy) (fun y hy => ?_) (fun h0 hns kp => ?_) rfl rfl rfl
  · rcases List.mem_cons.mp hy with rfl | hy
    · rfl
    · rw [List.mem_singleton.mp hy]; rfl
  have I : Inv (ncx CX0 P w K mg base nTm ⟨"__init__", tmName, defArgs s_Tm, defBody s_Tm, defScope s_Tm, [("__class__", cc)], cda⟩ fI A outer s H E) [] (startF nTm [.ref a, y] [none]) H { s with heap := h0, toks := s.toks + 2 } := by
    refine inv_startN (us := [.ref a, u2]) sc_Tm hr.hd e0 rfl (.cons rfl (.cons ry .nil)) ⟨rfl, fun z c e => ?_, fun x z c e1 e2 => ?_, fun i z e => ?_⟩ hns kp
    · have lk : (List.lookup z [(("__class__" : PySem.Str), cc)]) = some c := e
      by_cases hz : z = "__class__"
      · subst hz
        have : cc = c := by simpa [List.lookup] using lk
        subst this
        exact ⟨(e0.bs _ _ (e0.mod.kin _ _ lkcell)).2, _, _, (e0.bs _ _ (e0.mod.kin _ _ lkcell)).1, rfl⟩
      · have : (z == ("__class__" : PySem.Str)) = false := beq_eq_false_iff_ne.mpr hz
        simp [List.lookup, this] at lk
    · have key : ∀ {z : PySem.Str}, (List.lookup z [(("__class__" : PySem.Str), cc)]) = some c → z = "__class__" := fun {z} lk => by
        by_cases hz : z = "__class__"
        · exact hz
        · have : (z == ("__class__" : PySem.Str)) = false := beq_eq_false_iff_ne.mpr hz
          simp [List.lookup, this] at lk
      exact (key e1).trans (key e2).symm
    · match i, e with
      | 0, e =>
        cases e
        exact ⟨cc, rfl, fun v z => by cases z⟩
  have hbody : defBody s_Tm = [.Expr (.Call (.Attribute (.Call (.Name "super" ⟨18, 8, 18, 13⟩) [] [] ⟨18, 8, 18, 15⟩) "__init__" ⟨18, 8, 18, 24⟩) [.Name "most" ⟨18, 25, 18, 29⟩] [] ⟨18, 8, 18, 30⟩) ⟨18, 8, 18, 30⟩, .Assign [.Attribute (.Name "self" ⟨19, 8, 19, 12⟩) "most" ⟨19, 8, 19, 17⟩] (.Name "most" ⟨19, 20, 19, 24⟩) ⟨19, 8, 19, 24⟩] := rfl
  rw [hbody]
  obtain ⟨cd, hcl, hal⟩ := T.cls
  have KX0 : K.In h0 := KX.keeps kp
  obtain ⟨oD, hD1, hD2⟩ : ∃ oD, h0.get? C = some oD ∧ oD.data = .cls cd := by
    have hcl' := hcl
    unfold PySem.W.clsIn at hcl'
    split at hcl'
    · rename_i c d cd' sl ho
      cases hcl'
      exact ⟨_, KX0 _ _ ho, rfl⟩
    · cases hcl'
  obtain ⟨t1, hexc⟩ := exo_at I.hok hexo
  refine ks_wpAt_execs_cons (ks_wpAt_Expr_any (ks_wpAt_MethodCall ?_ rfl) rfl rfl)
  refine ks_wpAt_super_base (f := fI) (cc := cda) rfl rfl (by decide) rfl (KX0 _ _ lkf) rfl rfl rfl (KX0 _ _ lkc) rfl hvs hfile T.top ?_
  obtain ⟨mb, hb1, hb2⟩ := I.mod.blt
  have G0 : h0.Ns mainGlobals mg := I.mod.glob.keeps I.bk
  refine PySem.W.ks_loadName_global rfl rfl (Calls.loadGlobal_builtin G0 (PySem.W.mg_none_of KX0 G0 T.sup) (hb1.keeps I.bk) ((hb2 "super" (by decide)).trans (by first | rfl | kernel_rfl : bootBuiltins ("super" : PySem.Str) = some (.type "super"))) ⟨rfl, ?_⟩)
  refine wpAny_loadName_free rfl rfl rfl ⟨_, KX0 _ _ lkcell, rfl⟩ ?_
  refine wpAny_loadName_local rfl rfl hns rfl ?_
  refine ks_wpAny_isType_cls hD1 hD2 ⟨rfl, ?_⟩
  refine ks_wpAny_call_super hD1 hD2 hexc rfl (fun c e => nomatch e) (PySem.W.looks_mroIn KX0 T.mro) (fun h1 e1 k1 => ?_)
  have KX1 : K.In h1 := KX0.keeps k1
  have I1 : PySem.W.InstAt h1 a _ C none := ⟨k1 _ _ hexc, rfl, rfl, trivial⟩
  refine PySem.W.kxs_getMethod PySem.W.kxs_ValueError e1 (PySem.W.looks_opaque KX1 T.any) (l₀ := cd.mro) (fun A Q E s k q => wpAny_bind ((PySem.W.looks_clsIn KX1 hcl) A _ E s k (wpAny_pure q))) rfl KX1 hal (I1.type.andThen (PySem.W.looks_subIn KX1 T.sub)) (PySem.W.ks_ne KX1 I1 hcl) (by decide) ?_
  have k2 : ∀ b o, h0.get? b = some o → (h1.push (PySem.W.kxs_mw "ValueError.__init__" a)).get? b = some o := fun b o e => Heap.get?_push_of_some _ (k1 _ _ e)
  refine PySem.W.kxs_callWith (i := "ValueError.__init__") (x := a) rfl (Calls.evalArgs_plain ?_)
  refine Calls.spliced_cons (wpAny_Name (wpAny_loadName_local rfl rfl (hns.keeps k2) rfl (Calls.spliced_nil ?_)) rfl)
  refine ⟨Heap.get?_push_size _ rfl, ?_⟩
  obtain ⟨nm, q', N, bs, bm, sn, sub, ab, col, dd, z0, z1, z2, z3, z5, hC, hbm⟩ := T.oex.cls
  refine call_bwV (KX0.keeps k2 _ _ hC) (k2 _ _ hexc) (Heap.get?_push_size _ rfl) (show 1 ≤ sizeLine from sz1) (fun h2 t2 k3 hx2 => ?_)
  have I2 := (I.kept (t' := s.toks + 2) k2).write (t' := s.toks + 2 + 1) (x := a) (e := a) (o := exo a C none) (by rw [hexo]; exact True.intro) (.inl rfl) k3 ⟨_, hx2⟩ (exo_ok hx2)
  have eu : upd H a (exo a C none) = H := by
    funext b
    by_cases hb : b = a
    · rw [hb, upd_same, hexo]
    · rw [upd_ne hb]
  rw [eu] at I2
  refine PySem.wpAt_of_wpAny (wpAny_mono ((pss_one (ps_ost (pv 0) (pv 1))).run [] _ (startF nTm [.ref a, y] [none]) H { nx := fun _ H' => Q .non H', rt := fun _ _ => False } I2 ⟨y, rfl, _, rfl, a, C, rfl, T.oex, T.most, .inl ⟨hexo, fun dx hd hn => q dx hd hn⟩⟩) (fun fl s' hs => ?_) fun e s' hs => hs)
  cases fl with
  | next =>
    obtain ⟨σ', H', J, qq⟩ := hs
    exact ⟨.non, H', J.os, J.bare, J.base, J.hok, rfl, qq⟩
  | ret u => obtain ⟨_, _, _, _, _, z⟩ := hs; exact False.elim z
  | brk => obtain ⟨_, _, _, z⟩ := hs; exact False.elim z
  | cont => obtain ⟨_, _, _, z⟩ := hs; exact False.elim z
theorem D_check_many (T : Hd K mg) (TM : TmK P K s_Tm (He.ga K "TooMany") fI) : Fn P w K mg base (L2N.CX P w) 3 "check_many" (spManyC K) := by
  obtain ⟨fdT, FTm, bTm⟩ := D_Tm_init (w := w) (mg := mg) (base := base) TM
  obtain ⟨fd, F⟩ := T.d_check_many
  refine ⟨T.g_check_many, T.p_check_many, fd, ["number", "most"], ?_, FunD.bindsN F fun _ _ _ _ _ _ us hl => match us, hl with | [_, _], _ => rfl⟩
  refine F.ok sc_check_many (fun vs H Q E h => ?_) (fun cdv A outer s H vs Q E hr h => ⟨_, (pss_one (ps_if (pt_cmpR op_gt (pv 0) (pv 1) (nomark _))
        (pss_one (L2N.ps_raise rfl (L2N.takes_of rfl rfl rfl rfl) (pmk_oexN TM.oex TM.init TM.tyI FTm (hr.mono (by decide)) bTm pass0 rfl T.g_TooMany (pa_cons (pv 1) pa_nil))))
        pss_nil)), ?_⟩)
  · obtain ⟨_, _, rfl, _⟩ := h; rfl
  · obtain ⟨a, b, rfl, q1, q2⟩ := h
    refine ⟨_, rfl, _, rfl, _, _, rfl, rfl, decide (b < a), rfl, ?_⟩
    by_cases hab : b < a
    · rw [decide_eq_true hab]
      refine iteT ⟨_, rfl, (show 1 ≤ 1000 by decide), fun x hx => ?_⟩
      refine ⟨x, .int b, rfl, upd_same, fun dx hd hn => ⟨rfl, dx, _, upd_same, by rw [upd_ne hn, upd_same], ?_, ?_⟩⟩
      · rwa [upd_ne hn] at hd
      · rw [upd_ne hn] at hd
        refine q2 hab _ dx (fun c u e => ?_) upd_same
        have n1 := ne_of_none e hx
        have n2 := ne_of_none e hd
        rw [upd_ne n2, del_ne n1, upd_ne n1, upd_ne n2, upd_ne n1]; exact e
    · rw [decide_eq_false hab]
      exact iteF (q1 (by omega))
end
end Fo
end
section
set_option Elab.async false
set_option linter.all false
set_option maxRecDepth 100000
set_option maxHeartbeats 8000000
set_option pp.maxSteps 600
namespace Fo
open PySem PySem.Spec PyProof.Rows L2 LamX NdefX
theorem ixN_lt {n j : Nat} (hj : j < n) : ixN n (j : Int) = some j := by
  unfold ixN
  rw [if_pos (by omega), if_pos (by omega)]
  rfl
theorem seqI0 (n : Nat) : seqIndex? 0 (n + 1) = some 0 := by
  unfold seqIndex?
  simp
/-- the law's draws: what is left of the script -/
def Pool (H : Hp) (p c : Addr) : Prop := p ≠ c ∧ ∃ (seed cnt : Int) (cs : List Int), H p = some (.lst [.int seed, .int cnt, .ref c]) ∧ H c = some (.lst (cs.map V.int)) ∧ (∀ z ∈ cs, 0 ≤ z) ∧ cs.length ≤ 63
/-- all but p and c stays -/
def SmP (p c : Addr) (H H' : Hp) : Prop := ∀ b u, b ≠ p → b ≠ c → H b = some u → H' b = some u
def spDraw : Sp := fun vs H Q _ => ∃ (p c : Addr) (m : Nat), vs = [.ref p, iV m] ∧ Pool H p c ∧ 0 < m ∧ m ≤ 1000 ∧ ∀ H' d, d < m → SmP p c H H' → Pool H' p c → Q (iV d) H'
section
variable {P : Program} {w : World} {K : PySem.W.Frag} {mg : Str → Option Value} {base : Heap}
theorem D_law_draw (T : Hd K mg) : Fn P w K mg base CX0 1 "_law_draw" spDraw := by
  obtain ⟨fd, F⟩ := T.d_law_draw
  refine ⟨T.g_law_draw, T.p_law_draw, fd, ["_law_pool_here", "_law_many"], ?_, FunD.bindsN F fun _ _ _ _ _ _ us hl => match us, hl with | [_, _], _ => rfl⟩
  refine F.ok sc_law_draw (fun vs H Q E h => ?_) (fun cdv A outer s H vs Q E hr h => ⟨_, PSs.nox (pss_cons (ps_asg (pe_op op_add (pe_ix ix_list (pv 0) pe_int (fun _ _ => rfl)) pe_int) (pg_sub (pv 0) pe_int set_list))
      (pss_cons (ps_set (i := 2) sc_law_draw.nd rfl (.inl rfl) (pe_ix ix_list (pv 0) pe_int (fun _ _ => rfl)))
      (pss_cons (ps_if (pt_cmpR op_gt (pe_callB call_len rfl T.f_len bt_len (pa_cons (pv 2) pa_nil)) pe_int (nomark _))
        (pss_cons (ps_set (i := 3) sc_law_draw.nd rfl (.inl rfl) (pe_op op_mod (pe_callTy call_int1 rfl T.f_int bt_int (pa_cons (pe_ix ix_list (pv 2) pe_int (fun _ _ => rfl)) pa_nil)) (pv 1)))
        (pss_cons (ps_asg (pe_op op_fdiv (pe_callTy call_int1 rfl T.f_int bt_int (pa_cons (pe_ix ix_list (pv 2) pe_int (fun _ _ => rfl)) pa_nil)) (pv 1)) (pg_sub (pv 2) pe_int set_list))
        (pss_cons (ps_if (pt_cmpR op_eq (pe_ix ix_list (pv 2) pe_int (fun _ _ => rfl)) pe_int (nomark _))
          (pss_one (ps_expr (pe_bm PySem.F.plainAttrs_list PySem.F.slot_list_pop PySem.F.type_list_pop mt_popAt (pv 2) (pa_cons pe_int pa_nil))))
          pss_nil)
        (pss_one (ps_ret (pv 3))))))
        pss_nil)
      (pss_cons (ps_set (i := 4) sc_law_draw.nd rfl (.inl rfl) (pe_op op_mod (pe_callTy call_int1 rfl T.f_int bt_int (pa_cons (pe_op op_mul (pe_op op_add (pe_ix ix_list (pv 0) pe_int (fun _ _ => rfl)) (pe_op op_mul pe_int (pe_ix ix_list (pv 0) pe_int (fun _ _ => rfl)))) pe_int) pa_nil)) pe_int))
      (pss_cons (ps_set (i := 4) sc_law_draw.nd rfl (.inl rfl) (pe_op op_mod (pe_callTy call_int1 rfl T.f_int bt_int (pa_cons (pe_op op_mul (pv 4) (pe_op op_add (pe_op op_fdiv (pv 4) pe_int) pe_int)) pa_nil)) pe_int))
      (pss_cons (ps_set (i := 4) sc_law_draw.nd rfl (.inl rfl) (pe_op op_mod (pe_callTy call_int1 rfl T.f_int bt_int (pa_cons (pe_op op_mul (pv 4) (pe_op op_add (pe_op op_fdiv (pv 4) pe_int) pe_int)) pa_nil)) pe_int))
      (pss_one (ps_ret (pe_op op_mod (pe_callTy call_int1 rfl T.f_int bt_int (pa_cons (pe_op op_fdiv (pv 4) pe_int) pa_nil)) (pv 1)))))))))), ?_⟩)
  · obtain ⟨_, _, _, rfl, _⟩ := h; rfl
  · obtain ⟨p, c, m, rfl, ⟨hpc, seed, cnt, cs, hp, hc, hz, hl⟩, hm, hm1, q⟩ := h
    refine ⟨_, rfl, p, _, _, _, rfl, rfl, SqL.of hp, rfl, _, _, rfl, rfl, _, rfl, p, _, _, 1, rfl, rfl, hp, rfl, ?_⟩
    have hc1 : upd H p (.lst ([V.int seed, .int cnt, .ref c].set 1 (.int (cnt + 1)))) c = some (.lst (cs.map V.int)) := by rw [upd_ne hpc.symm]; exact hc
    have hp1 : upd H p (.lst ([V.int seed, .int cnt, .ref c].set 1 (.int (cnt + 1)))) p = some (.lst [.int seed, .int (cnt + 1), .ref c]) := upd_same
    have sm1 : SmP p c H (upd H p (.lst ([V.int seed, .int cnt, .ref c].set 1 (.int (cnt + 1))))) := fun b u n1 _ e => by rw [upd_ne n1]; exact e
    generalize upd H p (.lst ([V.int seed, .int cnt, .ref c].set 1 (.int (cnt + 1)))) = H1 at hc1 hp1 sm1
    have hmI : (0 : Int) < (m : Int) := by omega
    refine ⟨_, rfl, p, _, _, _, rfl, rfl, SqL.of hp1, rfl, ?_⟩
    cases cs with
    | nil =>
      refine ⟨_, rfl, _, _, rfl, .inl ⟨_, SqL.of hc1, rfl⟩, _, _, rfl, rfl, false, rfl, iteF ?_⟩
      refine ⟨_, rfl, p, _, _, _, rfl, rfl, SqL.of hp1, rfl, _, rfl, p, _, _, _, rfl, rfl, SqL.of hp1, rfl, ?_⟩
      have fin : ∀ x : Int, Q (V.int (x % (m : Int))) H1 := fun x => by
        have e1 : 0 ≤ x % (m : Int) := Int.emod_nonneg _ (by omega)
        have e2 : x % (m : Int) < m := Int.emod_lt_of_pos _ hmI
        have e3 : V.int (x % (m : Int)) = iV (x % (m : Int)).toNat := congrArg V.int (by omega)
        rw [e3]
        exact q H1 _ (by omega) sm1 ⟨hpc, seed, cnt + 1, [], hp1, hc1, fun z h => (nomatch h), by decide⟩
      have m1 : ∀ x : Int, -(2 ^ 64) < x % 2147483647 ∧ x % 2147483647 < 2 ^ 64 := fun x => ⟨by omega, by omega⟩
      refine ⟨_, _, rfl, rfl, .inl ⟨by decide, by decide⟩, _, _, rfl, rfl, _, _, rfl, rfl, .inr ⟨by decide, by decide⟩, .inl ⟨_, rfl, _, _, rfl, rfl, (show (0 : Int) < 2147483647 by decide), ?_⟩⟩
      refine ⟨_, rfl, _, rfl, _, _, rfl, rfl, ⟨by decide, by decide⟩, _, _, rfl, rfl, _, _, rfl, rfl, .inl (m1 _), .inl ⟨_, rfl, _, _, rfl, rfl, (show (0 : Int) < 2147483647 by decide), ?_⟩⟩
      refine ⟨_, rfl, _, rfl, _, _, rfl, rfl, ⟨by decide, by decide⟩, _, _, rfl, rfl, _, _, rfl, rfl, .inl (m1 _), .inl ⟨_, rfl, _, _, rfl, rfl, (show (0 : Int) < 2147483399 by decide), ?_⟩⟩
      exact ⟨_, rfl, _, _, rfl, rfl, ⟨by decide, by decide⟩, .inl ⟨_, rfl, _, rfl, _, _, rfl, rfl, hmI, fin _⟩⟩
    | cons z cs =>
      have hz0 := hz z List.mem_cons_self
      have hzs : ∀ y ∈ cs, 0 ≤ y := fun y h => hz y (List.mem_cons_of_mem _ h)
      have hl : cs.length + 1 ≤ 63 := hl
      have e1 : 0 ≤ z % (m : Int) := Int.emod_nonneg _ (by omega)
      have e2 : z % (m : Int) < m := Int.emod_lt_of_pos _ hmI
      have e3 : V.int (z % (m : Int)) = iV (z % (m : Int)).toNat := congrArg V.int (by omega)
      have e4 : 0 ≤ z / (m : Int) := Int.ediv_nonneg hz0 (by omega)
      refine ⟨_, rfl, _, _, rfl, .inl ⟨_, SqL.of hc1, rfl⟩, _, _, rfl, rfl, true, congrArg V.bl (decide_eq_true (by rw [List.length_map, List.length_cons]; omega)), iteT ?_⟩
      refine ⟨_, rfl, c, _, _, _, rfl, rfl, SqL.of hc1, (atI_nat (j := 0) (show (List.map V.int (z :: cs))[0]? = some (V.int z) from rfl)), .inl ⟨_, rfl, _, rfl, _, _, rfl, rfl, hmI, ?_⟩⟩
      refine ⟨_, rfl, c, _, _, _, rfl, rfl, SqL.of hc1, (atI_nat (j := 0) (show (List.map V.int (z :: cs))[0]? = some (V.int z) from rfl)), .inl ⟨_, rfl, _, rfl, _, _, rfl, rfl, ⟨hmI, by omega⟩, ?_⟩⟩
      refine ⟨_, rfl, c, _, 0, 0, rfl, rfl, hc1, ixN_lt (j := 0) (by rw [List.length_map, List.length_cons]; omega), ?_⟩
      have hc2 : upd H1 c (.lst ((List.map V.int (z :: cs)).set 0 (.int (z / (m : Int))))) c = some (.lst ((z / (m : Int) :: cs).map V.int)) := upd_same
      have hp2 : upd H1 c (.lst ((List.map V.int (z :: cs)).set 0 (.int (z / (m : Int))))) p = some (.lst [.int seed, .int (cnt + 1), .ref c]) := by rw [upd_ne hpc]; exact hp1
      have sm2 : SmP p c H (upd H1 c (.lst ((List.map V.int (z :: cs)).set 0 (.int (z / (m : Int)))))) := fun b u n1 n2 e => by rw [upd_ne n2]; exact sm1 b u n1 n2 e
      generalize upd H1 c (.lst ((List.map V.int (z :: cs)).set 0 (.int (z / (m : Int))))) = H2 at hc2 hp2 sm2
      refine ⟨_, rfl, c, _, _, _, rfl, rfl, SqL.of hc2, (atI_nat (j := 0) (show (List.map V.int (z / (m : Int) :: cs))[0]? = some (V.int (z / (m : Int))) from rfl)), rfl, decide (z / (m : Int) = 0), congrArg V.bl (decide_eq_decide.mpr ⟨fun h => by injection h, fun h => congrArg V.int h⟩), ?_⟩
      by_cases h0 : z / (m : Int) = 0
      · rw [decide_eq_true h0]
        refine iteT ?_
        refine ⟨_, rfl, .inl ⟨rfl, _, SqL.of hc2⟩, c, _, 0, 0, _, rfl, rfl, hc2, by decide, by decide, seqI0 _, rfl, ?_⟩
        refine ⟨_, rfl, ?_⟩
        have qq := q (upd H2 c (.lst (((z / (m : Int) :: cs).map V.int).eraseIdx 0))) (z % (m : Int)).toNat (by omega) (fun b u n1 n2 e => by rw [upd_ne n2]; exact sm2 b u n1 n2 e) ⟨hpc, seed, cnt + 1, cs, by rw [upd_ne hpc]; exact hp2, upd_same, hzs, by omega⟩
        rw [← e3] at qq
        exact qq
      · rw [decide_eq_false h0]
        refine iteF ⟨_, rfl, ?_⟩
        have qq := q H2 (z % (m : Int)).toNat (by omega) sm2 ⟨hpc, seed, cnt + 1, _, hp2, hc2, fun y hy => by rcases List.mem_cons.mp hy with rfl | h; exact e4; exact hzs y h, by show cs.length + 1 ≤ 63; omega⟩
        rw [← e3] at qq
        exact qq
end
end Fo
end
section
set_option Elab.async false
set_option linter.all false
set_option maxRecDepth 100000
set_option maxHeartbeats 8000000
set_option pp.maxSteps 600
namespace Fo
open PySem PySem.Spec PyProof.Rows L2 LamX NdefX
/-- the things in any order -/
def spMixed : Sp := fun vs H Q _ => ∃ (p c a : Addr) (xs : List V), vs = [.ref p, .ref a] ∧ Pool H p c ∧ a ≠ p ∧ a ≠ c ∧ H a = some (.lst xs) ∧ xs.length ≤ 100 ∧ ∀ H' l ys, ys.Perm xs → H l = none → SmP p c H H' → Pool H' p c → H' l = some (.lst ys) → Q (.ref l) H'
theorem seqI {n d : Nat} (h : d < n) : seqIndex? (d : Int) n = some d := by
  unfold seqIndex?
  have h1 : ¬ ((d : Int) < 0) := by omega
  simp only [h1, if_false]
  rw [if_pos (by simp; omega)]
  simp
theorem erase_perm {α : Type} {l : List α} {d : Nat} {y : α} (h : l[d]? = some y) : (y :: l.eraseIdx d).Perm l := by
  obtain ⟨hl, e⟩ := List.getElem?_eq_some_iff.mp h
  have h2 := List.take_append_drop d l
  rw [List.drop_eq_getElem_cons hl, e] at h2
  rw [List.eraseIdx_eq_take_drop_succ]
  conv => rhs; rw [← h2]
  exact List.perm_middle.symm
theorem Pool.at {H H' : Hp} {p c : Addr} (h : Pool H p c) (h1 : ∀ u, H p = some u → H' p = some u) (h2 : ∀ u, H c = some u → H' c = some u) : Pool H' p c :=
  let ⟨a, s, k, cs, e1, e2, r⟩ := h; ⟨a, s, k, cs, h1 _ e1, h2 _ e2, r⟩
theorem Pool.ls {H : Hp} {p c : Addr} (h : Pool H p c) : (∃ xs, H p = some (.lst xs)) ∧ ∃ xs, H c = some (.lst xs) := let ⟨_, _, _, _, e1, e2, _⟩ := h; ⟨⟨_, e1⟩, _, e2⟩
section
variable {P : Program} {w : World} {K : PySem.W.Frag} {mg : Str → Option Value} {base : Heap}
theorem D_law_mixed (T : Hd K mg) : Fn P w K mg base CX0 2 "_law_mixed" spMixed := by
  have D_law_draw := fun {P w base} => D_law_draw (P := P) (w := w) (base := base) T
  obtain ⟨fd, F⟩ := T.d_law_mixed
  refine ⟨T.g_law_mixed, T.p_law_mixed, fd, ["_law_pool_here", "_law_things"], ?_, FunD.bindsN F fun _ _ _ _ _ _ us hl => match us, hl with | [_, _], _ => rfl⟩
  refine F.ok sc_law_mixed (fun vs H Q E h => ?_) (fun cdv A outer s H vs Q E hr h => ⟨_, PSs.nox (pss_cons (ps_set (i := 2) sc_law_mixed.nd rfl (.inr rfl) (pe_callTy call_list_of rfl T.f_list bt_list (pa_cons (pv 1) pa_nil)))
      (pss_one (ps_ret (pe_lc (own := [("_law_k", 3)]) rfl sc_law_mixed.nd (pi_range1 rfl T.f_range (pa_cons (pe_callB call_len rfl T.f_len bt_len (pa_cons (pv 2) pa_nil)) pa_nil)) (blkOk_by (own := [("_law_k", 3)]) (N := n_law_mixed) (sc := defScope s_law_mixed) (by decide +kernel)) (fun _ _ _ _ _ => (pg_name (i := 3) sc_law_mixed.nd rfl (.inl rfl))) (fun _ _ _ _ _ => pts_nil) (fun _ _ _ _ _ => (pe_bmK (K := K) PySem.F.plainAttrs_list PySem.F.slot_list_pop PySem.F.type_list_pop mt_popAt (pv 2) (pa_cons (pe_fn D_law_draw (hr.mono (by first | decide | omega)) rfl pass0 (pa_cons (pv 0) (pa_cons (pe_callB (call_lenK (K := K)) rfl T.f_len bt_len (pa_cons (pv 2) pa_nil)) pa_nil))) pa_nil))))))), ?_⟩)
  · obtain ⟨_, _, _, _, rfl, _⟩ := h; rfl
  · obtain ⟨p, c, a, xs, rfl, hpool, hap, hac, ha, hl, q⟩ := h
    refine ⟨_, rfl, a, xs, rfl, .inl (SqL.of ha), fun f hf => ?_⟩
    obtain ⟨⟨xp, ep⟩, xc, ec⟩ := hpool.ls
    have fp : p ≠ f := ne_of_none ep hf
    have fc : c ≠ f := ne_of_none ec hf
    have s1 := Same.new (o := .lst xs) hf
    have hp1 : Pool (upd H f (.lst xs)) p c := hpool.at (fun u e => s1 _ _ e) (fun u e => s1 _ _ e)
    refine ⟨_, rfl, _, _, rfl, .inl ⟨_, SqL.of upd_same, rfl⟩, _, rfl, by omega, by omega, fun D hD => ?_⟩
    have Df : D ≠ f := fun z => by rw [z, upd_same] at hD; cases hD
    have hD0 : H D = none := by rwa [upd_ne Df] at hD
    have Dp : D ≠ p := fun z => by rw [z, ep] at hD0; cases hD0
    have Dc : D ≠ c := fun z => by rw [z, ec] at hD0; cases hD0
    refine lc_S (walk_rangeN (n := xs.length)) hD (fun b => b = p ∨ b = c ∨ b = f) (fun i acc H => Pool H p c ∧ ∃ rest, H f = some (.lst rest) ∧ (acc ++ rest).Perm xs ∧ rest.length + i = xs.length) (fun z => z.elim Dp fun z => z.elim Dc Df) (small1000 (by omega)) (fun _ _ _ _ _ => True.intro)
      (fun i acc H H' ys hd k ⟨r1, rest, r2, r3⟩ => ⟨r1.at (fun u e => k _ _ Dp.symm e) (fun u e => k _ _ Dc.symm e), rest, k _ _ Df.symm r2, r3⟩) ⟨hp1.at (fun u e => by rw [upd_ne Dp.symm]; exact e) (fun u e => by rw [upd_ne Dc.symm]; exact e), xs, by rw [upd_ne Df.symm]; exact upd_same, .refl _, rfl⟩ ?_ ?_
    · rintro i v H1 H' acc Fin Skip hi hla k hacc ⟨hp2, rest, hr, hperm, hlen⟩ ⟨rfl, rfl⟩ fin skip
      refine ⟨rfl, _, rfl, .inl ⟨rfl, _, SqL.of hr⟩, _, rfl, _, rfl, _, _, rfl, .inl ⟨_, SqL.of hr, rfl⟩, p, c, rest.length, rfl, hp2, by omega, by omega, fun H2 d hd sm pl => ?_⟩
      obtain ⟨y, hy⟩ : ∃ y, rest[d]? = some y := ⟨_, List.getElem?_eq_getElem hd⟩
      have hr2 := sm f _ fp.symm fc.symm hr
      refine ⟨f, rest, (d : Int), d, y, rfl, rfl, hr2, by omega, by omega, seqI hd, hy, fin y _ (fun b u nb e => ?_) ⟨pl.at (fun u e => by rw [upd_ne fp]; exact e) (fun u e => by rw [upd_ne fc]; exact e), _, upd_same, ?_, ?_⟩⟩
      · have n1 : b ≠ p := fun z => nb (.inl z)
        have n2 : b ≠ c := fun z => nb (.inr (.inl z))
        have n3 : b ≠ f := fun z => nb (.inr (.inr z))
        rw [upd_ne n3]; exact sm b u n1 n2 e
      · refine List.Perm.trans ?_ hperm
        rw [List.append_assoc]
        exact (erase_perm hy).append_left acc
      · rw [List.length_eraseIdx_of_lt hd]; omega
    · rintro H1 acc k hla hacc ⟨hp2, rest, hr, hperm, hlen⟩
      have : rest = [] := List.eq_nil_of_length_eq_zero (by omega)
      subst this
      rw [List.append_nil] at hperm
      exact q H1 D acc hperm hD0 (fun b u n1 n2 e => k b u (fun z => z.elim n1 fun z => z.elim n2 (ne_of_none e hf)) (s1 _ _ e)) hp2 hacc
end
end Fo
end
section
set_option Elab.async false
set_option linter.all false
set_option maxRecDepth 100000
set_option maxHeartbeats 8000000
set_option pp.maxSteps 900
namespace Fo
open PySem PySem.Spec PyProof.Rows L2 LamX NdefX
theorem Same.sql {K : PySem.W.Frag} {H H' : Hp} {a : Addr} {xs : List V} (e : Same H H') (h : SqL K H a xs) : SqL K H' a xs := by
  rcases h with h | h
  · rcases h with h | ⟨o, h⟩
    · exact .inl (.inl (e _ _ h))
    · exact .inl (.inr ⟨o, e _ _ h⟩)
  · exact .inr h
theorem cutV_ints (ns : List Int) (lo hi : Option Int) : ∃ ms : List Int, cutV (ns.map V.int) lo hi = ms.map V.int ∧ ms.length ≤ ns.length := by
  refine ⟨((ns.drop (HT.sIx (ns.map V.int).length 0 lo)).take (HT.sIx (ns.map V.int).length (ns.map V.int).length hi - HT.sIx (ns.map V.int).length 0 lo)), ?_, ?_⟩
  · unfold cutV
    rw [List.map_take, List.map_drop]
  · rw [List.length_take, List.length_drop]; omega
def spPool (K : PySem.W.Frag) : Sp := fun vs H Q _ => ∃ (a : Addr) (ns : List Int), vs = [.ref a] ∧ SqL K H a (ns.map V.int) ∧ ns.length ≤ 63 ∧ ∀ H' p c, H p = none → H c = none → Same H H' → Pool H' p c → Q (.ref p) H'
section
variable {P : Program} {w : World} {K : PySem.W.Frag} {mg : Str → Option Value} {base : Heap}
theorem D_law_pool (T : Hd K mg) : Fn P w K mg base CX0 1 "_law_pool" (spPool K) := by
  obtain ⟨fd, F⟩ := T.d_law_pool
  refine ⟨T.g_law_pool, T.p_law_pool, fd, ["_law_script"], ?_, FunD.bindsN F fun _ _ _ _ _ _ us hl => match us, hl with | [_], _ => rfl⟩
  refine F.ok sc_law_pool (fun vs H Q E h => ?_) (fun cdv A outer s H vs Q E hr h => ⟨_, PSs.nox (pss_cons (ps_set (i := 1) sc_law_pool.nd rfl (.inl rfl) (pe_op op_add (pe_op op_add (pe_op op_mod (pe_callTy call_int1 rfl T.f_int bt_int (pa_cons (pe_callB (cr_sum rfl) rfl T.f_sum bt_sum (pa_cons (pe_slice sl_list (pv 0) po_none (po_some pe_int)) pa_nil)) pa_nil)) pe_int) (pe_callB call_len rfl T.f_len bt_len (pa_cons (pv 0) pa_nil))) pe_int))
      (pss_cons (ps_for PassesOwn.never rfl (pi_list (pe_slice sl_list (pv 0) po_none (po_some pe_int))) (pg_name (i := 2) sc_law_pool.nd rfl (.inl rfl))
        (pss_one (ps_set (i := 1) sc_law_pool.nd rfl (.inl rfl) (pe_op op_mod (pe_callTy call_int1 rfl T.f_int bt_int (pa_cons (pe_op op_add (pe_op op_add (pe_op op_mul (pv 1) pe_int) (pe_op op_mod (pe_callTy call_int1 rfl T.f_int bt_int (pa_cons (pv 2) pa_nil)) pe_int)) pe_int) pa_nil)) pe_int))))
      (pss_one (ps_ret (pe_lst (pa_cons (pv 1) (pa_cons pe_int (pa_cons (pe_lc (own := [("_law_cell", 2)]) rfl sc_law_pool.nd (pi_list (pe_slice sl_list (pv 0) po_none (po_some pe_int))) (blkOk_by (own := [("_law_cell", 2)]) (N := n_law_pool) (sc := defScope s_law_pool) (by decide +kernel)) (fun _ _ _ _ _ => (pg_name (i := 2) sc_law_pool.nd rfl (.inl rfl))) (fun _ _ _ _ _ => (pts_one (pt_cmpR op_ge (pe_callB call_abs rfl T.f_abs bt_abs (pa_cons (pv 2) pa_nil)) (pe_op op_pow pe_int pe_int) (nomark _)))) (fun _ _ _ _ _ => (pe_callB call_abs rfl T.f_abs bt_abs (pa_cons (pv 2) pa_nil)))) pa_nil)))))))), ?_⟩)
  · obtain ⟨_, _, rfl, _⟩ := h; rfl
  · obtain ⟨a, ns, rfl, ha, hl, q⟩ := h
    obtain ⟨m1, e1, l1⟩ := cutV_ints ns none (some 1)
    obtain ⟨m63, e63, l63⟩ := cutV_ints ns none (some 63)
    refine ⟨_, rfl, _, rfl, a, _, rfl, ha, fun p1 hp1 => ?_⟩
    have s1 := Same.new (o := .lst (cutV (ns.map V.int) none (some 1))) hp1
    refine ⟨p1, m1, rfl, SqL.of (by rw [upd_same, e1]), .inl ⟨_, rfl, _, _, rfl, rfl, (show (0 : Int) < 1000003 by decide), _, rfl, _, _, rfl, .inl ⟨_, Same.sql s1 ha, rfl⟩, _, _, rfl, rfl, _, _, rfl, rfl, ?_⟩⟩
    refine ⟨_, rfl, _, rfl, a, _, rfl, Same.sql s1 ha, fun p2 hp2 => ?_⟩
    have s2 := Same.trans s1 (Same.new (o := .lst (cutV (ns.map V.int) none (some 63))) hp2)
    refine ⟨p2, rfl, ⟨_, SqL.of upd_same⟩, ?_⟩
    refine for_list (xs := cutV (ns.map V.int) none (some 63)) (fun i σ H' => ∃ (x : Int) (x2 : Option V), σ = [some (.ref a), some (.int x), x2] ∧ H' = upd (upd H p1 (.lst (cutV (ns.map V.int) none (some 1)))) p2 (.lst (cutV (ns.map V.int) none (some 63)))) ?_ ?_ ?_ ?_
    · exact ⟨_, _, rfl, rfl⟩
    · rintro i σ _ _ ⟨x, x2, _, rfl⟩
      exact SqL.of upd_same
    · rintro i v σ _ hv ⟨x, x2, rfl, rfl⟩
      rw [e63] at hv
      obtain ⟨z, hz, rfl⟩ := map_at hv
      exact ⟨_, rfl, _, _, rfl, rfl, .inr ⟨by decide, by decide⟩, _, rfl, .inl ⟨_, rfl, _, _, rfl, rfl, (show (0 : Int) < 2147483629 by decide), _, _, rfl, rfl, _, _, rfl, rfl, .inl ⟨_, rfl, _, _, rfl, rfl, (show (0 : Int) < 2147483647 by decide), _, _, rfl, rfl⟩⟩⟩
    · rintro σ _ ⟨x, x2, rfl, rfl⟩
      refine ⟨_, rfl, _, rfl, _, rfl, a, _, rfl, Same.sql s2 ha, fun p3 hp3 => ?_⟩
      have s3 := Same.trans s2 (Same.new (o := .lst (cutV (ns.map V.int) none (some 63))) hp3)
      refine ⟨p3, rfl, ⟨_, SqL.of upd_same⟩, fun D hD => ?_⟩
      rw [e63] at hD ⊢
      rw [e63] at s3
      have hp3' := upd_same (H := upd (upd H p1 (.lst (cutV (ns.map V.int) none (some 1)))) p2 (.lst (m63.map V.int))) (a := p3) (o := .lst (m63.map V.int))
      generalize upd (upd (upd H p1 (.lst (cutV (ns.map V.int) none (some 1)))) p2 (.lst (m63.map V.int))) p3 (.lst (m63.map V.int)) = H3 at hD s3 hp3' ⊢
      refine lc_same walk_list hD (fun i acc _ => ∃ cs : List Int, acc = cs.map V.int ∧ (∀ z ∈ cs, 0 ≤ z) ∧ cs.length ≤ i) (small1000 (by rw [List.length_map]; omega)) (fun H' k => SqL.of (k _ _ hp3')) (fun _ _ _ _ _ _ _ h => h) ⟨[], rfl, fun z h => (nomatch h), Nat.le_refl _⟩ ?_ ?_
      · rintro i v H4 H' acc Fin Skip hi hla k ⟨cs, rfl, h0, hl⟩ ⟨rfl, y⟩ fin skip
        obtain ⟨z, hz, rfl⟩ := map_at y
        have habs : 0 ≤ (if z < 0 then -z else z) := by split <;> omega
        refine ⟨rfl, _, rfl, z, rfl, _, _, rfl, rfl, ⟨by decide, by decide, by decide⟩, _, _, rfl, rfl, _, rfl, ?_⟩
        cases decide ((10 : Int) ^ (18 : Int).toNat ≤ (if z < 0 then -z else z)) with
        | true =>
          refine iteT ⟨_, rfl, z, rfl, fin _ _ (Same.refl _) ⟨cs ++ [if z < 0 then -z else z], by rw [List.map_append]; rfl, fun y hy => ?_, by rw [List.length_append]; show cs.length + 1 ≤ _; omega⟩⟩
          rcases List.mem_append.mp hy with h | h
          · exact h0 y h
          · rw [List.mem_singleton.mp h]; exact habs
        | false => exact iteF (skip _ (Same.refl _) ⟨cs, rfl, h0, by omega⟩)
      · rintro H4 acc k hla hacc ⟨cs, rfl, h0, hl⟩
        rw [List.length_map] at hl
        refine ⟨(show 3 ≤ sizeLine by rw [sizeLine_eq]; omega), fun p hp => ?_⟩
        have s4 : Same H H4 := Same.trans s3 k
        have fr : ∀ b, H4 b = none → H b = none := fun b e => by
          rcases hq : H b with _ | u
          · rfl
          · rw [s4 _ _ hq] at e; cases e
        have hD0 : H D = none := by
          rcases hq : H D with _ | u
          · rfl
          · rw [s3 _ _ hq] at hD; cases hD
        have Dp : p ≠ D := (ne_of_none hacc hp).symm
        exact q _ p D (fr p hp) hD0 (Same.trans s4 (Same.new hp)) ⟨Dp, _, _, cs, upd_same, by rw [upd_ne Dp.symm]; exact hacc, h0, by omega⟩
end
end Fo
end
section
set_option Elab.async false
set_option linter.all false
set_option maxRecDepth 100000
set_option maxHeartbeats 8000000
set_option pp.maxSteps 900
namespace Fo
open PySem PySem.Spec PyProof.Rows L2 LamX NdefX
theorem hu_s {A : Around} {k : Nat} (hr : Room k A) : A.units + 64 < cLine := hr.units
def spFlag : Sp := fun vs H Q _ => ∃ a b : Bool, vs = [.bl a, .bl b] ∧ Q (.bl (decide (a = b))) H
/-- the vectors over the first rows -/
def vecs (rows : List (List Nat)) : List (List Nat) := rows.foldl (fun D r => D.flatMap fun v => (r.filter fun x => !decide (x ∈ v)).map fun x => v ++ [x]) [[]]
def spAllDeals : Sp := fun vs H Q _ => ∃ (ra : Addr) (rows : List (List Nat)), vs = [.ref ra] ∧ Rows H ra rows ∧ 0 < rows.length ∧ rows.length ≤ 6 ∧ (∀ r ∈ rows, r.length ≤ 6) ∧ ∀ H' l D, D.Perm (vecs rows) → Same H H' → Dls H' l D → Q (.ref l) H'
theorem paired_app {α β : Type} {G : α → β → Prop} {a c : List α} {b d : List β} (h : Paired G a b) (k : Paired G c d) : Paired G (a ++ c) (b ++ d) := by
  induction h with
  | nil => exact k
  | cons x _ ih => exact .cons x ih
theorem tups_list {H : Hp} : ∀ {D : List (List Nat)} {vs : List V}, Tups H vs (D.map fun d => d.map iV) → ∃ L : List (Addr × List Nat), vs = L.map (fun b => V.ref b.1) ∧ D = L.map (·.2) ∧ ∀ b ∈ L, H b.1 = some (.tup (b.2.map iV))
  | [], vs, h => by
    cases h
    exact ⟨[], rfl, rfl, fun b h => nomatch h⟩
  | d :: D, vs, h => by
    cases h with
    | cons a b =>
      obtain ⟨p, rfl, hp⟩ := a
      obtain ⟨L, rfl, rfl, hL⟩ := tups_list b
      exact ⟨(p, d) :: L, rfl, rfl, fun x hx => by rcases List.mem_cons.mp hx with rfl | hx; exact hp; exact hL x hx⟩
theorem list_tups {H : Hp} : ∀ {L : List (Addr × List Nat)}, (∀ b ∈ L, H b.1 = some (.tup (b.2.map iV))) → Tups H (L.map fun b => V.ref b.1) ((L.map (·.2)).map fun d => d.map iV)
  | [], _ => .nil
  | b :: L, h => .cons ⟨b.1, rfl, h b List.mem_cons_self⟩ (list_tups fun x hx => h x (List.mem_cons_of_mem _ hx))
section
variable {P : Program} {w : World} {K : PySem.W.Frag} {mg : Str → Option Value} {base : Heap}
theorem D_law_flag (T : Hd K mg) : Fn P w K mg base CX0 1 "_law_flag" spFlag := by
  obtain ⟨fd, F⟩ := T.d_law_flag
  refine ⟨T.g_law_flag, T.p_law_flag, fd, ["_law_told_here", "_law_due"], ?_, FunD.bindsN F fun _ _ _ _ _ _ us hl => match us, hl with | [_, _], _ => rfl⟩
  refine F.ok sc_law_flag (fun vs H Q E h => ?_) (fun cdv A outer s H vs Q E hr h => ⟨_, PSs.nox (pss_one (ps_ret (pe_and (pe_callB call_isi rfl T.f_isinstance bt_isinstance (pa_cons (pv 0) (pa_cons (pe_bltn (v := .ty "bool") rfl T.f_bool bt_bool rfl) pa_nil))) (pe_one (pe_cmpR op_eq (pv 0) (pv 1) (nomark _)))))), ?_⟩)
  · obtain ⟨_, _, rfl, _⟩ := h; rfl
  · obtain ⟨a, b, rfl, q⟩ := h
    refine ⟨_, rfl, .bl a, .ty "bool", _, .type "bool", true, rfl, .ty _, .base (.bl a), kit_ty (by decide +kernel), true, rfl, iteT ⟨_, rfl, _, rfl, rfl, ?_⟩⟩
    have : decide (V.bl a = V.bl b) = decide (a = b) := decide_eq_decide.mpr ⟨fun z => by injection z, fun z => by rw [z]⟩
    rw [this]; exact q
theorem D_law_all (T : Hd K mg) : Fn P w K mg base CX0 1 "_law_all" spAllDeals := by
  obtain ⟨fd, F⟩ := T.d_law_all
  refine ⟨T.g_law_all, T.p_law_all, fd, ["_law_rows_here"], ?_, FunD.bindsN F fun _ _ _ _ _ _ us hl => match us, hl with | [_], _ => rfl⟩
  refine F.ok sc_law_all (fun vs H Q E h => ?_) (fun cdv A outer s H vs Q E hr h => ⟨_, PSs.nox (pss_cons (ps_set (i := 1) sc_law_all.nd rfl (.inl rfl) (pe_lst (pa_cons (pe_tup pa_nil) pa_nil)))
      (pss_cons (ps_for PassesOwn.never rfl (pi_tup (pv 0)) (pg_name (i := 2) sc_law_all.nd rfl (.inl rfl))
        (pss_cons (ps_set (i := 3) sc_law_all.nd rfl (.inl rfl) (pe_lst pa_nil))
        (pss_cons (ps_for PassesOwn.never rfl (pi_list (pv 1)) (pg_name (i := 4) sc_law_all.nd rfl (.inr rfl))
          (pss_one (ps_expr (pe_bm PySem.F.plainAttrs_list PySem.F.slot_list_extend PySem.F.type_list_extend mt_extend (pv 3) (pa_cons (pe_lc (own := [("_law_thing", 5)]) rfl sc_law_all.nd (pi_tup (pv 2)) (blkOk_by (own := [("_law_thing", 5)]) (N := n_law_all) (sc := defScope s_law_all) (by decide +kernel)) (fun _ _ _ _ _ => (pg_name (i := 5) sc_law_all.nd rfl (.inl rfl))) (fun _ _ _ _ _ => (pts_one (pt_cmpR (op_notIn_seqK (K := K)) (pv 5) (pv 4) (by rfl)))) (fun _ _ _ _ _ => (pe_op (op_catAK (K := K)) (pv 4) (pe_tup (pa_cons (pv 5) pa_nil))))) pa_nil)))))
        (pss_one (ps_set (i := 1) sc_law_all.nd rfl (.inl rfl) (pv 3))))))
      (pss_one (ps_ret (pe_callB (cr_sortedTs (hu_s hr)) rfl T.f_sorted bt_sorted (pa_cons (pv 1) pa_nil)))))), ?_⟩)
  · obtain ⟨_, _, rfl, _⟩ := h; rfl
  · obtain ⟨ra, rows, rfl, hrw, hn0, hn6, hrl, q⟩ := h
    obtain ⟨vs, hra, trw⟩ := hrw
    have hvl : vs.length = rows.length := by rw [Paired.length trw, List.length_map]
    refine ⟨Nat.zero_le _, fun e0 he0 => ⟨sz1, fun f0 hf0 => ?_⟩⟩
    have s1 := Same.trans (Same.new (o := .tup []) he0) (Same.new (o := .lst [.ref e0]) hf0)
    refine ⟨_, rfl, ra, rfl, ⟨_, SqT.of (s1 _ _ hra)⟩, ?_⟩
    refine for_tup (xs := vs) (fun i σ H1 => ∃ (f : Addr) (ws : List V) (x2 x3 x4 x5 : Option V), σ = [some (.ref ra), some (.ref f), x2, x3, x4, x5] ∧ Same H H1 ∧ H1 f = some (.lst ws) ∧ Tups H1 ws ((vecs (rows.take i)).map fun d => d.map iV) ∧ (vecs (rows.take i)).length ≤ 6 ^ i ∧ (∀ d ∈ vecs (rows.take i), d.length = i)) ?_ ?_ ?_ ?_
    · exact ⟨f0, _, _, _, _, _, rfl, s1, upd_same, .cons ⟨e0, rfl, Same.new hf0 _ _ upd_same⟩ .nil, (show 1 ≤ 6 ^ 0 by decide), fun d hd => by rw [List.mem_singleton.mp hd]; rfl⟩
    · rintro i σ H1 _ ⟨f, ws, x2, x3, x4, x5, rfl, h, _⟩
      exact SqT.of (h _ _ hra)
    · rintro i v σ H1 hv ⟨f, ws, x2, x3, x4, x5, rfl, s2, hf, tw, hD, hDl⟩
      obtain ⟨tt, htt, rp, rfl, hrp⟩ := paired_get trw hv
      obtain ⟨r, hr, rfl⟩ := map_at htt
      have hi6 : i < 6 := by have := (List.getElem?_eq_some_iff.mp hr).1; omega
      have hr6 := hrl r (List.mem_of_getElem? hr)
      have hwl : ws.length = (vecs (rows.take i)).length := by rw [Paired.length tw, List.length_map]
      have ev : vecs (rows.take (i + 1)) = (vecs (rows.take i)).flatMap fun v => (r.filter fun x => !decide (x ∈ v)).map fun x => v ++ [x] := by
        rw [take_snoc hr]; unfold vecs; rw [List.foldl_append]; rfl
      have h6i : (6 : Nat) ^ i ≤ 6 ^ 5 := Nat.pow_le_pow_right (by decide) (by omega)
      have h65 : (6 : Nat) ^ 5 = 7776 := by decide
      generalize vecs (rows.take i) = D at tw hD hDl hwl ev
      refine ⟨Nat.zero_le _, fun g hg => ?_⟩
      have fg : f ≠ g := ne_of_none hf hg
      have hg0 : H g = none := by
        rcases hq : H g with _ | u
        · rfl
        · rw [s2 _ _ hq] at hg; cases hg
      have s3 := Same.new (o := .lst []) hg
      refine ⟨_, rfl, f, rfl, ⟨_, SqL.of (s3 _ _ hf)⟩, ?_⟩
      refine for_list (xs := ws) (fun j σ H2 => ∃ (zs : List V) (x4 x5 : Option V), σ = [some (.ref ra), some (.ref f), some (.ref rp), some (.ref g), x4, x5] ∧ Same H H2 ∧ H2 f = some (.lst ws) ∧ Tups H2 ws (D.map fun d => d.map iV) ∧ H2 g = some (.lst zs) ∧ Tups H2 zs (((D.take j).flatMap fun v => (r.filter fun x => !decide (x ∈ v)).map fun x => v ++ [x]).map fun d => d.map iV) ∧ zs.length ≤ 6 * j) ?_ ?_ ?_ ?_
      · exact ⟨[], _, _, rfl, Same.trans s2 s3, s3 _ _ hf, tw.same s3, upd_same, .nil, Nat.zero_le _⟩
      · rintro j σ H2 _ ⟨zs, x4, x5, _, _, h, _⟩
        exact SqL.of h
      · rintro j v σ H2 hv2 ⟨zs, x4, x5, rfl, s4, hf2, tw2, hg2, tz, hzl⟩
        obtain ⟨tt, htt, dp, rfl, hdp⟩ := paired_get tw2 hv2
        obtain ⟨d, hd, rfl⟩ := map_at htt
        have hdl := hDl d (List.mem_of_getElem? hd)
        have hjl : j < D.length := (List.getElem?_eq_some_iff.mp hd).1
        have hrp2 := s4 _ _ hrp
        refine ⟨_, rfl, .inl ⟨rfl, _, SqL.of hg2⟩, _, rfl, rp, rfl, ⟨_, SqT.of hrp2⟩, fun L hL => ?_⟩
        refine lc_same walk_tup hL (fun k acc H => Tups H acc ((((r.take k).filter fun x => !decide (x ∈ d)).map fun (x : Nat) => d ++ [x]).map fun (d : List Nat) => d.map iV)) (small1000 (by rw [List.length_map]; omega)) (fun H' k => SqT.of (k _ _ hrp2)) (fun i acc H H' ys hd k h => h.x k (fun xs z => by rw [hd] at z; cases z)) .nil ?_ ?_
        · rintro k v H3 H' acc Fin Skip hk hla k3 rr ⟨rfl, y⟩ fin skip
          obtain ⟨x, hx, rfl⟩ := map_at y
          have hdp3 := k3 _ _ hdp
          have er := filter_snoc (p := fun x => !decide (x ∈ d)) hx
          have hinv : inV (iV x) (d.map iV) = decide (x ∈ d) := by
            unfold inV
            rw [Bool.eq_iff_iff, List.any_eq_true, decide_eq_true_iff]
            constructor
            · rintro ⟨z, hz, e⟩
              obtain ⟨y, hy, rfl⟩ := List.mem_map.mp hz
              have : x = y := by simp [eqV] at e; omega
              rw [this]; exact hy
            · intro hm
              exact ⟨iV x, List.mem_map.mpr ⟨x, hm, rfl⟩, by simp [eqV]⟩
          refine ⟨rfl, _, rfl, _, rfl, dp, _, rfl, .inr (SqT.of hdp3), rfl, ?_, !decide (x ∈ d), by rw [if_pos rfl, hinv], ?_⟩
          · rw [List.all_eq_true]
            intro z hz
            obtain ⟨_, _, rfl⟩ := List.mem_map.mp hz
            rfl
          cases ob : (!decide (x ∈ d)) with
          | true =>
            refine iteT ⟨_, rfl, _, rfl, sz1, fun tp htp => ?_⟩
            have n3 := Same.new (o := .tup [iV x]) htp
            refine catA_to (n3 _ _ hdp3) upd_same (by rw [List.length_map]; show _ + 1 ≤ _; omega) fun H4 p4 s5 hp4 => fin _ _ (Same.trans n3 s5) ?_
            rw [er, if_pos ob, List.map_append, List.map_append]
            refine Tups.snoc ((rr.same n3).same s5) ?_
            rw [hp4]
            show _ = some (HO.tup ((d ++ [x]).map iV))
            rw [List.map_append]; rfl
          | false =>
            refine iteF (skip _ (Same.refl _) ?_)
            rw [er, if_neg (by rw [ob]; decide), List.append_nil]; exact rr
        · intro H3 acc s5 hla hacc rr
          rw [List.length_map] at hla
          rw [List.length_map, List.take_length] at rr
          have hg3 := s5 _ _ hg2
          have nt : ∀ xs, H3 g ≠ some (.tup xs) := fun xs z => by rw [hg3] at z; cases z
          have sx : SmX g H3 (upd H3 g (.lst (zs ++ acc))) := SmX.put (SmX.refl g _)
          refine ⟨g, L, zs, acc, rfl, rfl, hg3, hacc, by rw [sizeLine_eq]; omega, ?_⟩
          refine ⟨zs ++ acc, _, _, rfl, Same.mut (Same.trans s4 s5) hg0, by rw [upd_ne fg]; exact s5 _ _ hf2, (tw2.same s5).x sx nt, upd_same, ?_, by rw [List.length_append]; omega⟩
          rw [take_snoc hd, List.flatMap_append, List.map_append]
          have e1 : ([d].flatMap fun v => (r.filter fun x => !decide (x ∈ v)).map fun x => v ++ [x]) = (r.filter fun x => !decide (x ∈ d)).map fun x => d ++ [x] := by simp
          rw [e1]
          exact paired_app ((tz.same s5).x sx nt) (rr.x sx nt)
      · rintro σ H2 ⟨zs, x4, x5, rfl, s4, hf2, tw2, hg2, tz, hzl⟩
        rw [hwl, List.take_length, ← ev] at tz
        have hzl2 : zs.length = (vecs (rows.take (i + 1))).length := by rw [Paired.length tz, List.length_map]
        refine ⟨_, rfl, g, zs, _, _, _, _, rfl, s4, hg2, tz, by rw [Nat.pow_succ]; omega, fun d hd => ?_⟩
        rw [ev] at hd
        obtain ⟨v, hv, hd⟩ := List.mem_flatMap.mp hd
        obtain ⟨x, _, rfl⟩ := List.mem_map.mp hd
        rw [List.length_append, hDl v hv]; rfl
    · rintro σ H1 ⟨f, ws, x2, x3, x4, x5, rfl, s2, hf, tw, hD, hDl⟩
      rw [hvl, List.take_length] at tw hD hDl
      obtain ⟨L, rfl, eD, hL⟩ := tups_list tw
      have hid : ∀ l : List Nat, (l.map fun (n : Nat) => (n : Int)).map Int.toNat = l := fun l => by
        rw [List.map_map]
        exact (List.map_congr_left fun n _ => rfl).trans (List.map_id l)
      refine ⟨_, rfl, f, L.map fun b => (b.1, b.2.map fun (n : Nat) => (n : Int)), rfl, SqL.of (by rw [hf, List.map_map]; rfl), fun b hb => ?_, fun L' p hperm hp => ?_⟩
      · obtain ⟨b0, hb0, rfl⟩ := List.mem_map.mp hb
        refine ⟨by rw [hL b0 hb0]; show _ = some (HO.tup ((b0.2.map fun (n : Nat) => (n : Int)).map V.int)); rw [List.map_map]; rfl, fun z => ?_⟩
        have hm : b0.2 ∈ vecs rows := by rw [eD]; exact List.mem_map.mpr ⟨b0, hb0, rfl⟩
        have h1 := hDl _ hm
        have h2 : b0.2 = [] := List.map_eq_nil_iff.mp z
        rw [h2] at h1
        simp at h1
        omega
      · have sn := Same.new (o := .lst (L'.map fun b => V.ref b.1)) hp
        refine q _ p ((L'.map fun b => (b.1, b.2.map Int.toNat)).map (·.2)) ?_ (Same.trans s2 sn) ⟨_, upd_same, ?_⟩
        · rw [eD, List.map_map]
          refine (hperm.map _).trans ?_
          rw [List.map_map]
          refine List.Perm.of_eq (List.map_congr_left fun b _ => ?_)
          exact hid b.2
        · have ht := list_tups (H := upd H1 p (.lst (L'.map fun b => V.ref b.1))) (L := L'.map fun b => (b.1, b.2.map Int.toNat)) (fun b hb => by
            obtain ⟨b1, hb1, rfl⟩ := List.mem_map.mp hb
            obtain ⟨b0, hb0, rfl⟩ := List.mem_map.mp (hperm.mem_iff.mp hb1)
            show upd H1 p _ b0.1 = some (.tup (((b0.2.map fun (n : Nat) => (n : Int)).map Int.toNat).map iV))
            rw [hid]
            exact sn _ _ (hL b0 hb0))
          rw [List.map_map] at ht
          exact ht
end
end Fo
end
section
set_option Elab.async false
set_option linter.all false
set_option maxRecDepth 100000
set_option maxHeartbeats 8000000
set_option pp.maxSteps 900
namespace Fo
open PySem PySem.Spec PyProof.Rows L2 LamX NdefX
/-- a table with its dealings and a turn, as the law has them -/
structure Game (K : PySem.W.Frag) (H : Hp) (tb l ta : Addr) (rows : List (List Nat)) (t : List Nat) (D : List (List Nat)) : Prop where
  tab : Tab K H tb rows
  ro : RowsOk rows
  sml : Sml rows
  dd : Deals rows t D
  pos : 0 < rows.length
  cnt : 0 < cnt rows (whole rows.length)
  dl : Dls H l D
  turn : H ta = some (.tup (t.map iV))
theorem Game.same {K : PySem.W.Frag} {H H' : Hp} {tb l ta : Addr} {rows : List (List Nat)} {t : List Nat} {D : List (List Nat)} (g : Game K H tb l ta rows t D) (k : Same H H') : Game K H' tb l ta rows t D := ⟨g.tab.same k, g.ro, g.sml, g.dd, g.pos, g.cnt, g.dl.same k, k _ _ g.turn⟩
def spSidesRight (K : PySem.W.Frag) : Sp := fun vs H Q _ => ∃ (tb l ta : Addr) (rows : List (List Nat)) (t : List Nat) (D : List (List Nat)), vs = [.ref tb, .ref l, .ref ta] ∧ Game K H tb l ta rows t D ∧ ∀ H', Same H H' → Q (.bl true) H'
section
variable {P : Program} {w : World} {K : PySem.W.Frag} {mg : Str → Option Value} {base : Heap}
theorem D_law_sides_right (T : Hd K mg) (TX : Hx K mg) (DM : ∀ {w : World} {base : Heap}, Fn P w K mg base (L2N.CX P w) 3 "check_many" (spManyC K)) : Fn P w K mg base CX0 19 "_law_sides_right" (spSidesRight K) := by
  have D_even_sides := fun {w base} => D_even_sides (P := P) (w := w) (base := base) T TX DM
  have D_law_least_sides := fun {P w base} => D_law_least_sides (P := P) (w := w) (base := base) T
  obtain ⟨fd, F⟩ := T.d_law_sides_right
  refine ⟨T.g_law_sides_right, T.p_law_sides_right, fd, ["_law_table", "_law_deals", "_law_turn"], ?_, FunD.bindsN F fun _ _ _ _ _ _ us hl => match us, hl with | [_, _, _], _ => rfl⟩
  refine F.ok sc_law_sides_right (fun vs H Q E h => ?_) (fun cdv A outer s H vs Q E hr h => ⟨_, PSs.nox (pss_cons (ps_set (i := 3) sc_law_sides_right.nd rfl (.inl rfl) (pe_fn D_law_least_sides (hr.mono (by first | decide | omega)) rfl pass0 (pa_cons (pv 1) (pa_cons (pv 2) pa_nil))))
      (pss_cons (ps_set (i := 4) sc_law_sides_right.nd rfl (.inl rfl) (pe_fn D_even_sides (hr.mono (by first | decide | omega)) rfl passN (pa_cons (pv 0) (pa_cons (pv 2) pa_nil))))
      (pss_cons (ps_if (pt_cmpR op_gt (pv 3) pe_int (nomark _))
        (pss_one (ps_ret (pe_cmpR op_isN (pv 4) pe_non (nomark _))))
        pss_nil)
      (pss_one (ps_ret (pe_and (pe_callB call_isi rfl T.f_isinstance bt_isinstance (pa_cons (pv 4) (pa_cons (pe_bltn (v := .ty "int") rfl T.f_int bt_int rfl) pa_nil))) (pe_and (pe_not (pe_callB call_isi rfl T.f_isinstance bt_isinstance (pa_cons (pv 4) (pa_cons (pe_bltn (v := .ty "bool") rfl T.f_bool bt_bool rfl) pa_nil)))) (pe_one (pe_cmpR op_eq (pv 4) (pv 3) (nomark _)))))))))), ?_⟩)
  · obtain ⟨_, _, _, _, _, _, rfl, _⟩ := h; rfl
  · obtain ⟨tb, l, ta, rows, t, D, rfl, g, q⟩ := h
    refine ⟨_, rfl, _, rfl, l, ta, rows, t, D, rfl, g.dd, g.dl, g.turn, fun H1 s1 => ?_⟩
    have g1 := g.same s1
    refine ⟨_, rfl, _, rfl, tb, rows, _, rfl, g1.tab, by have := g.ro.len; omega, g.sml, .inl ⟨t, ⟨ta, rfl, g1.turn, g.dd.turn⟩, g.ro, g.pos, g.cnt, fun H2 s2 => ?_⟩⟩
    have qq := q H2 (Same.trans s1 s2)
    by_cases h5 : lsd (t.map (rowOf rows)) (whole rows.length) ≤ 5000
    · rw [if_pos h5]
      refine ⟨_, rfl, _, _, rfl, rfl, false, congrArg V.bl (decide_eq_false (by omega)), iteF ?_⟩
      refine ⟨_, rfl, _, .ty "int", _, .type "int", true, rfl, .ty _, .base (.int _), kit_ty (by decide +kernel), true, rfl, iteT ?_⟩
      refine ⟨_, rfl, _, .ty "bool", _, .type "bool", false, rfl, .ty _, .base (.int _), kit_ty (by decide +kernel), ?_⟩
      refine ⟨false, rfl, true, rfl, iteT ⟨_, rfl, _, rfl, rfl, ?_⟩⟩
      rw [decide_eq_true rfl]
      exact qq
    · rw [if_neg h5]
      refine ⟨_, rfl, _, _, rfl, rfl, true, congrArg V.bl (decide_eq_true (by omega)), iteT ⟨_, rfl, rfl, qq⟩⟩
end
end Fo
end
section
set_option Elab.async false
set_option linter.all false
set_option maxRecDepth 100000
set_option maxHeartbeats 8000000
set_option pp.maxSteps 900
namespace Fo
open PySem PySem.Spec PyProof.Rows L2 LamX NdefX
/-- all but p, c and tables stays -/
def KG (p c : Addr) (H H' : Hp) : Prop := ∀ b u, b ≠ p → b ≠ c → (∀ ps, u ≠ HO.tbl ps) → H b = some u → H' b = some u
theorem KG.trans {p c : Addr} {H H1 H2 : Hp} (h : KG p c H H1) (k : KG p c H1 H2) : KG p c H H2 := fun b u n1 n2 n3 e => k b u n1 n2 n3 (h b u n1 n2 n3 e)
theorem SmP.kg {p c : Addr} {H H' : Hp} (h : SmP p c H H') : KG p c H H' := fun b u n1 n2 _ e => h b u n1 n2 e
theorem Same.kg {p c : Addr} {H H' : Hp} (h : Same H H') : KG p c H H' := fun b u _ _ _ e => h b u e
theorem KpT.kg {p c : Addr} {H H' : Hp} (h : KpT H H') : KG p c H H' := fun b u _ _ n e => h b u n e
theorem KG.tup {p c : Addr} {H H' : Hp} (k : KG p c H H') (pl : Pool H p c) {b : Addr} {xs : List V} (e : H b = some (.tup xs)) : H' b = some (.tup xs) := by
  obtain ⟨⟨xp, ep⟩, xc, ec⟩ := pl.ls
  exact k _ _ (ne_of e ep (fun z => nomatch z)) (ne_of e ec (fun z => nomatch z)) (fun _ z => nomatch z) e
theorem KG.tups {p c : Addr} {H H' : Hp} (k : KG p c H H') (pl : Pool H p c) {vs : List V} {ts : List (List V)} (h : Tups H vs ts) : Tups H' vs ts := Paired.mapP h fun _ _ ⟨b, e, q⟩ => ⟨b, e, k.tup pl q⟩
theorem Game.kg {K : PySem.W.Frag} {H H' : Hp} {p c tb l ta : Addr} {rows : List (List Nat)} {t : List Nat} {D : List (List Nat)} (g : Game K H tb l ta rows t D) (pl : Pool H p c) (hl : l ≠ p ∧ l ≠ c) (k : KG p c H H') : Game K H' tb l ta rows t D := by
  obtain ⟨⟨xp, ep⟩, xc, ec⟩ := pl.ls
  obtain ⟨C, dx, ra, h0, h1, vs, h2, h3⟩ := g.tab
  obtain ⟨ws, d1, d2⟩ := g.dl
  exact ⟨⟨C, dx, ra, h0, k _ _ (ne_of h1 ep (fun z => nomatch z)) (ne_of h1 ec (fun z => nomatch z)) (fun _ z => nomatch z) h1, vs, k.tup pl h2, k.tups pl h3⟩, g.ro, g.sml, g.dd, g.pos, g.cnt, ⟨ws, k _ _ hl.1 hl.2 (fun _ z => nomatch z) d1, k.tups pl d2⟩, k.tup pl g.turn⟩
theorem lsd_pos : ∀ (rs : List (List Nat)) (m : Nat), 0 < lsd rs m
  | [], _ => Nat.one_pos
  | r :: rs, m => by
    have key : ∀ (l : List (Nat × Nat)) (a : Nat), 0 < a → (∀ e ∈ l, 0 < den e.2 (cnt (r :: rs) m)) → 0 < l.foldl (fun k e => Nat.lcm k (Nat.lcm (den e.2 (cnt (r :: rs) m)) (lsd rs (m - 2 ^ e.1)))) a := fun l => by
      induction l with
      | nil => exact fun a h _ => h
      | cons e l ih =>
        intro a h he
        exact ih _ (Nat.lcm_pos h (Nat.lcm_pos (he e List.mem_cons_self) (lsd_pos rs _))) fun e' h' => he e' (List.mem_cons_of_mem _ h')
    refine key _ 1 Nat.one_pos fun e he => den_pos ?_
    obtain ⟨x, c⟩ := e
    obtain ⟨_, _, h3⟩ := mem_ops.mp he
    rw [← sum_ops]
    have : c ≤ ((ops r rs m).map (·.2)).sum := by
      have gen : ∀ l : List (Nat × Nat), (x, c) ∈ l → c ≤ (l.map (·.2)).sum := fun l => by
        induction l with
        | nil => exact fun h => nomatch h
        | cons e l ih =>
          intro h
          rw [List.map_cons, List.sum_cons]
          rcases List.mem_cons.mp h with rfl | h
          · exact Nat.le_add_right _ _
          · have := ih h; omega
      exact gen _ he
    omega
theorem tabs_smP {K : PySem.W.Frag} {H H' : Hp} {p c : Addr} (t : TabsN (TPart K) H) (pl : Pool H p c) (k : SmP p c H H') : TabsN (TPart K) H' := fun pr hp => by
  obtain ⟨⟨xp, ep⟩, xc, ec⟩ := pl.ls
  obtain ⟨ps, h1, h2, h3⟩ := t pr hp
  refine ⟨ps, k _ _ (ne_of h1 ep (fun z => nomatch z)) (ne_of h1 ec (fun z => nomatch z)) h1, h2, fun pos cv hc => ?_⟩
  obtain ⟨cc, e, hcc⟩ := h3 pos cv hc
  exact ⟨cc, e, k _ _ (ne_of hcc ep (fun z => nomatch z)) (ne_of hcc ec (fun z => nomatch z)) hcc⟩
theorem Same.tabs {K : PySem.W.Frag} {H H' : Hp} (k : Same H H') (t : TabsN (TPart K) H) : TabsN (TPart K) H' := t.ext fun b o e => k b o e
def spDrawersRight (K : PySem.W.Frag) : Sp := fun vs H Q _ => ∃ (p c tb l ta : Addr) (rows : List (List Nat)) (t : List Nat) (D : List (List Nat)), vs = [.ref p, .ref tb, .ref l, .ref ta] ∧ Pool H p c ∧ l ≠ p ∧ l ≠ c ∧ Game K H tb l ta rows t D ∧ TabsN (TPart K) H ∧ ∀ H', KG p c H H' → Pool H' p c → TabsN (TPart K) H' → Q (.bl true) H'
section
variable {P : Program} {w : World} {K : PySem.W.Frag} {mg : Str → Option Value} {base : Heap}
theorem D_law_drawers_right (T : Hd K mg) (TX : Hx K mg) (TB : TabB base mg (He.cT K kPart).1 (He.cT K kPart).2) (DM : ∀ {w : World} {base : Heap}, Fn P w K mg base (L2N.CX P w) 3 "check_many" (spManyC K)) : Fn P w K mg base CX0 19 "_law_drawers_right" (spDrawersRight K) := by
  have D_drawer_even := fun {w base} => D_drawer_even (P := P) (w := w) (base := base) T TX DM
  have D_law_least_sides := fun {P w base} => D_law_least_sides (P := P) (w := w) (base := base) T
  have D_law_draw := fun {P w base} => D_law_draw (P := P) (w := w) (base := base) T
  have D_law_flag := fun {P w base} => D_law_flag (P := P) (w := w) (base := base) T
  have D_law_part_drawer := D_law_part_drawer (P := P) (w := w) (base := base) T TB
  obtain ⟨fd, F⟩ := T.d_law_drawers_right
  refine ⟨T.g_law_drawers_right, T.p_law_drawers_right, fd, ["_law_pool_here", "_law_table", "_law_deals", "_law_turn"], ?_, FunD.bindsN F fun _ _ _ _ _ _ us hl => match us, hl with | [_, _, _, _], _ => rfl⟩
  refine F.ok sc_law_drawers_right (fun vs H Q E h => ?_) (fun cdv A outer s H vs Q E hr h => ⟨_, PSs.nox (pss_cons (ps_set (i := 4) sc_law_drawers_right.nd rfl (.inl rfl) (pe_fn D_law_least_sides (hr.mono (by first | decide | omega)) rfl pass0 (pa_cons (pv 2) (pa_cons (pv 3) pa_nil))))
      (pss_cons (ps_for PassesOwn.never rfl (pi_list (pe_lst (pa_cons (pe_callB (call_min2 rfl) rfl T.f_min bt_min (pa_cons (pv 4) (pa_cons pe_int pa_nil))) (pa_cons (pe_op op_add pe_int (pe_fn D_law_draw (hr.mono (by first | decide | omega)) rfl pass0 (pa_cons (pv 0) (pa_cons pe_int pa_nil)))) (pa_cons (pe_callB (call_min2 rfl) rfl T.f_min bt_min (pa_cons pe_int (pa_cons (pe_op op_mul (pv 4) (pe_op op_add pe_int (pe_fn D_law_draw (hr.mono (by first | decide | omega)) rfl pass0 (pa_cons (pv 0) (pa_cons pe_int pa_nil))))) pa_nil))) pa_nil))))) (pg_name (i := 5) sc_law_drawers_right.nd rfl (.inl rfl))
        (pss_cons (ps_set (i := 6) sc_law_drawers_right.nd rfl (.inl rfl) (pe_fn D_law_part_drawer (hr.mono (by first | decide | omega)) rfl pass0 (pa_cons (pv 2) (pa_cons (pv 5) pa_nil))))
        (pss_one (ps_if (pt_not (pt_val (pe_fn D_law_flag (hr.mono (by first | decide | omega)) rfl pass0 (pa_cons (pe_fn D_drawer_even (hr.mono (by first | decide | omega)) rfl pass0 (pa_cons (pv 1) (pa_cons (pv 3) (pa_cons (pv 5) (pa_cons (pv 6) pa_nil))))) (pa_cons (pe_cmpR op_eq (pe_op op_mod (pe_callTy call_int1 rfl T.f_int bt_int (pa_cons (pv 5) pa_nil)) (pv 4)) pe_int (nomark _)) pa_nil)))))
          (pss_one (ps_ret pe_bl))
          pss_nil))))
      (pss_one (ps_ret pe_bl)))), ?_⟩)
  · obtain ⟨_, _, _, _, _, _, _, _, rfl, _⟩ := h; rfl
  · obtain ⟨p, c, tb, l, ta, rows, t, D, rfl, pl, lp, lc, g, tn, q⟩ := h
    have hd0 := lsd_pos (t.map (rowOf rows)) (whole rows.length)
    refine ⟨_, rfl, _, rfl, l, ta, rows, t, D, rfl, g.dd, g.dl, g.turn, fun H1 s1 => ?_⟩
    generalize hdue : lsd (t.map (rowOf rows)) (whole rows.length) = due at hd0
    have pl1 : Pool H1 p c := pl.at (fun u e => s1 _ _ e) (fun u e => s1 _ _ e)
    refine ⟨_, rfl, _, _, rfl, _, rfl, p, c, 12, rfl, pl1, by decide, by decide, fun H2 a ha sm2 pl2 => ?_⟩
    refine ⟨_, _, rfl, rfl, _, rfl, _, rfl, p, c, 4, rfl, pl2, by decide, by decide, fun H3 b hb sm3 pl3 => ?_⟩
    refine ⟨_, _, rfl, rfl, _, _, rfl, rfl, .inr ⟨by omega, by omega⟩, _, _, rfl, (show 3 ≤ sizeLine by rw [sizeLine_eq]; omega), fun ll hll => ?_⟩
    have hss : ∃ ss : List Nat, [V.int (if (12 : Int) < ((due : Nat) : Int) then 12 else ((due : Nat) : Int)), .int (1 + ((a : Nat) : Int)), .int (if ((due : Nat) : Int) * (1 + ((b : Nat) : Int)) < 12 then ((due : Nat) : Int) * (1 + ((b : Nat) : Int)) else 12)] = ss.map iV ∧ ∀ s ∈ ss, 1 ≤ s ∧ s ≤ 12 := by
      have e1 : ((due : Nat) : Int) * (1 + ((b : Nat) : Int)) = ((due * (1 + b) : Nat) : Int) := by simp
      have p1 : 0 < due * (1 + b) := Nat.mul_pos hd0 (by omega)
      rw [e1]
      generalize due * (1 + b) = z at p1
      refine ⟨[if 12 < due then 12 else due, 1 + a, if z < 12 then z else 12], ?_, fun s hs => ?_⟩
      · have g1 : (if (12 : Int) < ((due : Nat) : Int) then (12 : Int) else ((due : Nat) : Int)) = ((if 12 < due then 12 else due : Nat) : Int) := by split <;> split <;> omega
        have g3 : (if ((z : Nat) : Int) < 12 then ((z : Nat) : Int) else (12 : Int)) = ((if z < 12 then z else 12 : Nat) : Int) := by split <;> split <;> omega
        rw [g1, g3]
        simp [iV]
      · rcases List.mem_cons.mp hs with rfl | hs
        · split <;> omega
        · rcases List.mem_cons.mp hs with rfl | hs
          · omega
          · rw [List.mem_singleton.mp hs]; split <;> omega
    obtain ⟨ss, hse, hsr⟩ := hss
    have tn3 := tabs_smP (tabs_smP (Same.tabs s1 tn) pl1 sm2) pl2 sm3
    have k3 : KG p c H H3 := ((Same.kg s1).trans (SmP.kg sm2)).trans (SmP.kg sm3)
    have s4 := Same.new (o := .lst (ss.map iV)) hll
    have lp4 : ll ≠ p := by obtain ⟨⟨xp, ep⟩, _⟩ := pl3.ls; exact (ne_of_none ep hll).symm
    have lc4 : ll ≠ c := by obtain ⟨_, xc, ec⟩ := pl3.ls; exact (ne_of_none ec hll).symm
    refine ⟨ll, rfl, ⟨_, SqL.of upd_same⟩, ?_⟩
    rw [show upd H3 ll (.lst [V.int (if (12 : Int) < ((due : Nat) : Int) then 12 else ((due : Nat) : Int)), .int (1 + ((a : Nat) : Int)), .int (if ((due : Nat) : Int) * (1 + ((b : Nat) : Int)) < 12 then ((due : Nat) : Int) * (1 + ((b : Nat) : Int)) else 12)]) = upd H3 ll (.lst (ss.map iV)) by rw [hse]]
    have pl4 : Pool (upd H3 ll (.lst (ss.map iV))) p c := pl3.at (fun u e => s4 _ _ e) (fun u e => s4 _ _ e)
    have k4 : KG p c H (upd H3 ll (.lst (ss.map iV))) := k3.trans (Same.kg s4)
    refine for_list (xs := ss.map iV) (fun i σ H5 => ∃ (x5 x6 : Option V), σ = [some (.ref p), some (.ref tb), some (.ref l), some (.ref ta), some (iV due), x5, x6] ∧ KG p c H H5 ∧ Pool H5 p c ∧ TabsN (TPart K) H5 ∧ H5 ll = some (.lst (ss.map iV))) ?_ ?_ ?_ ?_
    · exact ⟨_, _, rfl, k4, pl4, Same.tabs s4 tn3, upd_same⟩
    · rintro i σ H5 _ ⟨x5, x6, _, _, _, _, h⟩
      exact SqL.of h
    · rintro i v σ H5 hv ⟨x5, x6, rfl, k5, pl5, tn5, hl5⟩
      obtain ⟨s, hs, rfl⟩ := map_at hv
      obtain ⟨hs1, hs12⟩ := hsr s (List.mem_of_getElem? hs)
      have g5 := g.kg pl ⟨lp, lc⟩ k5
      refine ⟨_, rfl, _, rfl, .ref l, iV s, rfl, tn5, fun H6 f F c1 c2 G kt tn6 pk => ?_⟩
      have pl6 : Pool H6 p c := pl5.at (fun u e => by obtain ⟨⟨xp, ep⟩, _⟩ := pl5.ls; exact kt _ _ (by rw [ep] at e; cases e; exact fun _ z => nomatch z) e) (fun u e => by obtain ⟨_, xc, ec⟩ := pl5.ls; exact kt _ _ (by rw [ec] at e; cases e; exact fun _ z => nomatch z) e)
      have g6 := g5.kg pl5 ⟨lp, lc⟩ (KpT.kg kt)
      have hl6 := kt ll (.lst (ss.map iV)) (fun _ z => nomatch z) hl5
      refine ⟨_, rfl, _, rfl, _, rfl, _, rfl, tb, ta, f, rows, t, D, s, rfl, g6.tab, g6.ro, g6.sml, g6.dd, g6.pos, g6.cnt, ⟨F, c1, c2, l, G, pk, g6.dl⟩, g6.turn, hs1, hs12, fun H7 s7 => ?_⟩
      refine ⟨_, rfl, .inl ⟨_, rfl, _, rfl, _, _, rfl, rfl, (by omega : (0 : Int) < ((due : Nat) : Int)), rfl, _, _, rfl, ?_⟩⟩
      have hb : decide (V.int (((s : Nat) : Int) % ((due : Nat) : Int)) = V.int 0) = decide (due ∣ s) := decide_eq_decide.mpr ⟨fun z => by
        injection z with z
        exact Int.natCast_dvd_natCast.mp (Int.dvd_of_emod_eq_zero z), fun z => congrArg V.int (Int.emod_eq_zero_of_dvd (Int.natCast_dvd_natCast.mpr z))⟩
      rw [hdue]
      refine ⟨true, ?_, iteF ?_⟩
      · show V.bl (decide (decide (due ∣ s) = decide (V.int (((s : Nat) : Int) % ((due : Nat) : Int)) = V.int 0))) = V.bl true
        rw [hb, decide_eq_true rfl]
      · exact ⟨_, _, rfl, (k5.trans (KpT.kg kt)).trans (Same.kg s7), pl6.at (fun u e => s7 _ _ e) (fun u e => s7 _ _ e), Same.tabs s7 tn6, s7 _ _ hl6⟩
    · rintro σ H5 ⟨x5, x6, rfl, k5, pl5, tn5, hl5⟩
      exact q H5 k5 pl5 tn5
end
end Fo
end
section
set_option Elab.async false
set_option linter.all false
/-! The law's list of dealings is the list of the sequences. -/
namespace Fo
/-- what a vector over rows is -/
def Vc (rows : List (List Nat)) (v : List Nat) : Prop := v.length = rows.length ∧ v.Nodup ∧ ∀ (j : Nat) (r : List Nat) (x : Nat), rows[j]? = some r → v[j]? = some x → x ∈ r
def vstep (D : List (List Nat)) (r : List Nat) : List (List Nat) := D.flatMap fun v => (r.filter fun x => !decide (x ∈ v)).map fun x => v ++ [x]
theorem vc_step {rows : List (List Nat)} {r : List Nat} {D : List (List Nat)} (h : ∀ v, v ∈ D ↔ Vc rows v) (v : List Nat) : v ∈ vstep D r ↔ Vc (rows ++ [r]) v := by
  unfold vstep
  rw [List.mem_flatMap]
  constructor
  · rintro ⟨u, hu, hv⟩
    obtain ⟨x, hx, rfl⟩ := List.mem_map.mp hv
    obtain ⟨hxr, hxu⟩ := List.mem_filter.mp hx
    have hxu : x ∉ u := by simpa using hxu
    obtain ⟨h1, h2, h3⟩ := (h u).mp hu
    refine ⟨by rw [List.length_append, List.length_append, h1]; rfl, ?_, fun j r' y hj hy => ?_⟩
    · exact List.nodup_append.mpr ⟨h2, by simp, fun a ha b hb => by rw [List.mem_singleton.mp hb]; exact fun z => hxu (z ▸ ha)⟩
    · by_cases hl : j < rows.length
      · rw [List.getElem?_append_left hl] at hj
        rw [List.getElem?_append_left (by omega)] at hy
        exact h3 j r' y hj hy
      · rw [List.getElem?_append_right (by omega)] at hj
        rw [List.getElem?_append_right (by omega)] at hy
        by_cases h0 : j - rows.length = 0
        · rw [h0] at hj
          rw [show j - u.length = 0 by omega] at hy
          cases hj
          cases hy
          exact hxr
        · obtain ⟨k, hk⟩ : ∃ k, j - rows.length = k + 1 := ⟨j - rows.length - 1, by omega⟩
          rw [hk] at hj
          simp at hj
  · rintro ⟨h1, h2, h3⟩
    rw [List.length_append] at h1
    have hl : rows.length < v.length := by rw [h1]; simp
    have hv : v = v.take rows.length ++ [v[rows.length]] := by
      have := List.take_append_drop rows.length v
      rw [List.drop_eq_getElem_cons hl, List.drop_eq_nil_of_le (by rw [h1]; simp)] at this
      exact this.symm
    refine ⟨v.take rows.length, (h _).mpr ⟨by rw [List.length_take]; omega, h2.sublist (List.take_sublist _ _), fun j r' y hj hy => ?_⟩, ?_⟩
    · have hjl := (List.getElem?_eq_some_iff.mp hj).1
      rw [List.getElem?_take_of_lt hjl] at hy
      exact h3 j r' y (by rw [List.getElem?_append_left hjl]; exact hj) hy
    · rw [List.mem_map]
      refine ⟨v[rows.length], List.mem_filter.mpr ⟨h3 rows.length r _ (by rw [List.getElem?_append_right (Nat.le_refl _), Nat.sub_self]; rfl) (List.getElem?_eq_getElem hl), ?_⟩, hv.symm⟩
      rw [hv] at h2
      have := (List.nodup_append.mp h2).2.2
      simp only [Bool.not_eq_true', decide_eq_false_iff_not]
      intro hm
      exact this _ hm _ List.mem_cons_self rfl
theorem vstep_nd {r : List Nat} {D : List (List Nat)} (hr : r.Nodup) (hD : D.Nodup) : (vstep D r).Nodup := by
  unfold vstep
  induction D with
  | nil => exact List.nodup_nil
  | cons u D ih =>
    obtain ⟨h1, h2⟩ := List.nodup_cons.mp hD
    rw [List.flatMap_cons]
    refine List.nodup_append.mpr ⟨?_, ih h2, fun a ha b hb z => ?_⟩
    · refine List.Pairwise.map _ (fun a b q z => q ?_) (hr.sublist List.filter_sublist)
      have := List.append_cancel_left z
      exact (List.cons.inj this).1
    · subst z
      obtain ⟨x, _, rfl⟩ := List.mem_map.mp ha
      obtain ⟨v, hv, hb⟩ := List.mem_flatMap.mp hb
      obtain ⟨y, _, e⟩ := List.mem_map.mp hb
      have e1 := congrArg List.dropLast e
      rw [List.dropLast_concat, List.dropLast_concat] at e1
      exact h1 (e1 ▸ hv)
theorem vecs_gen : ∀ (rows rows0 : List (List Nat)) (D : List (List Nat)), (∀ r ∈ rows, r.Nodup) → D.Nodup → (∀ v, v ∈ D ↔ Vc rows0 v) → (rows.foldl vstep D).Nodup ∧ ∀ v, v ∈ rows.foldl vstep D ↔ Vc (rows0 ++ rows) v
  | [], rows0, D, _, hD, h => by rw [List.append_nil]; exact ⟨hD, h⟩
  | r :: rows, rows0, D, hr, hD, h => by
    have := vecs_gen rows (rows0 ++ [r]) (vstep D r) (fun r' h' => hr r' (List.mem_cons_of_mem _ h')) (vstep_nd (hr r List.mem_cons_self) hD) (vc_step h)
    rw [List.append_assoc] at this
    exact this
theorem vecs_perm {rows : List (List Nat)} (hr : ∀ r ∈ rows, r.Nodup ∧ ∀ x ∈ r, x < rows.length) : (vecs rows).Perm (comp rows (2 ^ rows.length - 1)) := by
  obtain ⟨h1, h2⟩ := vecs_gen rows [] [[]] (fun r h => (hr r h).1) (by simp) (fun v => by
    rw [List.mem_singleton]
    constructor
    · rintro rfl
      exact ⟨rfl, List.nodup_nil, fun j r x hj _ => by simp at hj⟩
    · rintro ⟨h, _⟩
      exact List.eq_nil_of_length_eq_zero h)
  refine perm_of_nodup h1 (comp_nodup (fun r h => (hr r h).1) _) fun v => ?_
  have e := h2 v
  rw [List.nil_append] at e
  refine (show v ∈ vecs rows ↔ Vc rows v from e).trans ?_
  rw [mem_comp]
  refine ⟨fun ⟨a, b, c⟩ => ⟨a, b, fun x hx => ?_, c⟩, fun ⟨a, b, _, c⟩ => ⟨a, b, c⟩⟩
  obtain ⟨j, hj⟩ := List.getElem?_of_mem hx
  have hjl : j < rows.length := by have := (List.getElem?_eq_some_iff.mp hj).1; omega
  have hm := c j _ x (List.getElem?_eq_getElem hjl) hj
  rw [whole_bit]
  exact decide_eq_true ((hr _ (List.getElem_mem hjl)).2 x hm)
end Fo
end
section
set_option Elab.async false
set_option linter.all false
set_option maxRecDepth 100000
set_option maxHeartbeats 8000000
set_option pp.maxSteps 900
namespace Fo
open PySem PySem.Spec PyProof.Rows L2 LamX NdefX
abbrev cusV : List V := [.str "ahead", .str "near", .str "anew", .str "strict"]
/-- the customs' names stand -/
structure Hy (K : PySem.W.Frag) : Prop where
  cus : ∀ H, SqT K H (He.ga K "CUSTOMS") cusV
def spCustom : Sp := fun vs H Q _ => vs = [.str "ahead"] ∧ Q .non H
section
variable {P : Program} {w : World} {K : PySem.W.Frag} {mg : Str → Option Value} {base : Heap}
theorem D_check_custom (T : Hd K mg) (TY : Hy K) : Fn P w K mg base CX0 1 "check_custom" spCustom := by
  obtain ⟨fd, F⟩ := T.d_check_custom
  refine ⟨T.g_check_custom, T.p_check_custom, fd, ["thing"], ?_, FunD.bindsN F fun _ _ _ _ _ _ us hl => match us, hl with | [_], _ => rfl⟩
  refine F.ok sc_check_custom (fun vs H Q E h => ?_) (fun cdv A outer s H vs Q E hr h => ⟨_, PSs.nox (pss_one (ps_if (PW.pt (pw_or (pt_not (pt_val (pe_callB call_isi rfl T.f_isinstance bt_isinstance (pa_cons (pv 0) (pa_cons (pe_bltn (v := .ty "str") rfl T.f_str bt_str rfl) pa_nil))))) (pw_or1 (pt_cmpR op_notIn_seq (pv 0) (pe_glob (v := .ref (He.ga K "CUSTOMS")) rfl T.g_CUSTOMS rfl) (by rfl)))))
        (pss_one ps_never)
        pss_nil)), ?_⟩)
  · obtain ⟨rfl, _⟩ := h; rfl
  · obtain ⟨rfl, q⟩ := h
    refine ⟨_, rfl, .str "ahead", .ty "str", _, .type "str", true, rfl, .ty _, .base (.str _), kit_ty (by decide +kernel), true, rfl, iteF ?_⟩
    refine ⟨_, rfl, _, cusV, rfl, .inr (TY.cus _), rfl, rfl, false, rfl, iteF q⟩
end
end Fo
end
section
set_option Elab.async false
set_option linter.all false
set_option maxRecDepth 100000
set_option maxHeartbeats 8000000
set_option pp.maxSteps 900
namespace Fo
open PySem PySem.Spec PyProof.Rows L2 LamX NdefX
def spBitsT : Sp := fun vs H Q _ => ∃ a ns, vs = [.ref a] ∧ H a = some (.tup (ns.map iV)) ∧ (∀ n ∈ ns, n < 64) ∧ ns.length ≤ 64 ∧ ∀ H', Same H H' → Q (iV (bsum ns)) H'
section
variable {P : Program} {w : World} {K : PySem.W.Frag} {mg : Str → Option Value} {base : Heap}
theorem D_bitsT (T : Hd K mg) : Fn P w K mg base CX0 1 "bits" spBitsT := by
  obtain ⟨fd, F⟩ := T.d_bits
  refine ⟨T.g_bits, T.p_bits, fd, ["numbers"], ?_, FunD.bindsN F fun _ _ _ _ _ _ us hl => match us, hl with | [_], _ => rfl⟩
  refine F.ok sc_bits (fun vs H Q E h => ?_) (fun cdv A outer s H vs Q E hr h => ⟨_, PSs.nox (pss_one (ps_ret (pe_callB (cr_sum rfl) rfl T.f_sum bt_sum (pa_cons (pe_lc (own := [("number", 1)]) rfl sc_bits.nd (pi_tup (pv 0)) (blkOk_by (own := [("number", 1)]) (N := n_bits) (sc := defScope s_bits) (by decide +kernel)) (fun _ _ _ _ _ => (pg_name (i := 1) sc_bits.nd rfl (.inl rfl))) (fun _ _ _ _ _ => pts_nil) (fun _ _ _ _ _ => (pe_op op_oneShl pe_int (pv 1)))) pa_nil)))), ?_⟩)
  · obtain ⟨x, _, rfl, _⟩ := h; rfl
  · obtain ⟨a, ns, rfl, ha, hb, hl, q⟩ := h
    refine ⟨_, rfl, a, rfl, ⟨_, SqT.of ha⟩, fun D hD => ?_⟩
    refine lc_same walk_tup hD (fun i acc _ => acc = (ns.take i).map fun n => V.int (2 ^ n)) (by rw [List.length_map]; exact small1000 (by omega)) (fun H' k => SqT.of (k _ _ ha)) (fun _ _ _ _ _ _ _ h => h) rfl ?_ ?_
    · rintro i v H1 H' acc Fin Skip hi hla k r ⟨rfl, y⟩ fin skip
      obtain ⟨n, hn, rfl⟩ := map_at y
      refine ⟨rfl, ?_⟩
      refine ⟨_, rfl, n, rfl, rfl, by have := hb n (List.mem_of_getElem? hn); omega, ?_⟩
      refine fin _ _ (Same.refl _) ?_
      rw [r, take_snoc hn, List.map_append]; rfl
    · intro H' acc k hla hd r
      refine ⟨D, ns.map fun n => (2 : Int) ^ n, rfl, SqL.of ?_, ?_⟩
      · rw [hd, r, List.length_map, List.take_length, List.map_map]; rfl
      · rw [bsum_int]; exact q H' k
end
end Fo
end
section
set_option Elab.async false
set_option linter.all false
set_option maxRecDepth 100000
set_option maxHeartbeats 8000000
set_option pp.maxSteps 900
namespace Fo
open PySem PySem.Spec PyProof.Rows L2 LamX NdefX
theorem sl_tupAK {X : Cx} {K : PySem.W.Frag} (hk : X.K = K := by rfl) : SlR X (rSlA K) := by subst hk; exact sl_tupA
/-- the rows of those who are to draw from place i on -/
def rst (rows : List (List Nat)) (t : List Nat) (i : Nat) : List (List Nat) := (t.drop i).map (rowOf rows)
/-- what may be drawn at a place, as it is kept -/
def Chs (N : Addr → Prop) (H : Hp) (rows : List (List Nat)) (t : List Nat) (i m : Nat) (v : V) : Prop := ∃ q l p r, v = .ref q ∧ ¬ N l ∧ t[i]? = some p ∧ rows[p]? = some r ∧ H q = some (.tup [.ref l, iV (ops r (rst rows t (i + 1)) m).length]) ∧ H l = some (.lst ((ops r (rst rows t (i + 1)) m).map fun e => iV e.1))
structure Wlk (K : PySem.W.Frag) (N : Addr → Prop) (H : Hp) (wk cn da kp : Addr) (rows : List (List Nat)) (t : List Nat) : Prop where
  ins : ∃ dx ta wa aa, H wk = some (.ins (He.ga K "Walk") dx [("counter", .ref cn), ("turn", .ref ta), ("custom", .str "ahead"), ("waiting", .ref wa), ("kept", .ref kp), ("all_through", .ref aa)]) ∧ H ta = some (.tup (t.map iV)) ∧
    H wa = some (.lst ((List.range (t.length + 1)).map fun i => iV (bsum (t.drop i)))) ∧ ¬ N wa
  ctr : Ctr K H cn da rows
  ne : da ≠ kp
  kept : ∃ kvs, H kp = some (.dT kvs) ∧ KvOk kSet kvs ∧ ∀ i m v, valV kvs (kk i m) = some v → Chs N H rows t i m v
theorem Ctr.x {K : PySem.W.Frag} {H H' : Hp} {c da b : Addr} {rows : List (List Nat)} (h : Ctr K H c da rows) (k : SmX b H H') (n1 : c ≠ b) (n2 : da ≠ b) (nt : ∀ xs, H b ≠ some (.tup xs)) : Ctr K H' c da rows := by
  obtain ⟨dx, ra, kvs, h1, h2, h3, h4⟩ := h
  exact ⟨dx, ra, kvs, k _ _ n1 h1, h2.x k nt, k _ _ n2 h3, h4⟩
def spWalkInit (K : PySem.W.Frag) : Sp := fun vs H Q _ => ∃ (wk dx tb ta : Addr) (rows : List (List Nat)) (t : List Nat), vs = [.ref wk, .ref tb, .ref ta, .str "ahead"] ∧ H wk = some (.ins (He.ga K "Walk") dx []) ∧ Tab K H tb rows ∧ rows.length ≤ 6 ∧ IsTurn rows.length t ∧ H ta = some (.tup (t.map iV)) ∧
  ∀ H' cn da kp, H cn = none → H da = none → H kp = none → SmX wk H H' → Wlk K (fun _ => False) H' wk cn da kp rows t → Q .non H'
section
variable {P : Program} {w : World} {K : PySem.W.Frag} {mg : Str → Option Value} {base : Heap}
theorem D_Walk_init (T : Hd K mg) : Cn P w K mg base CX0 4 "Walk" (spWalkInit K) := by
  have D_bitsT := fun {P w base} => D_bitsT (P := P) (w := w) (base := base) T
  have D_Counter_init := fun {P w base} => D_Counter_init (P := P) (w := w) (base := base) T
  obtain ⟨fd, F⟩ := T.d_Walk_init
  refine ⟨T.g_Walk, T.mk_Walk, fd, ["self", "table", "turn", "custom"], ?_, FunD.bindsN F fun _ _ _ _ _ _ us hl => match us, hl with | [_, _, _, _], _ => rfl⟩
  refine F.ok sc_Walk_init (fun vs H Q E h => ?_) (fun cdv A outer s H vs Q E hr h => ⟨_, PSs.nox (have hu := hu_of hr; (pss_cons (ps_fld (pv 0) (pe_mkc D_Counter_init (hr.mono (by first | decide | omega)) rfl pass0 (pa_cons (pe_fld (pv 1) rfl) pa_nil)) rfl)
      (pss_cons (ps_fld (pv 0) (pv 2) rfl)
      (pss_cons (ps_fld (pv 0) (pv 3) rfl)
      (pss_cons (ps_fld (pv 0) (pe_lc (own := [("place", 4)]) rfl sc_Walk_init.nd (pi_range1 rfl T.f_range (pa_cons (pe_op op_add (pe_callB call_len rfl T.f_len bt_len (pa_cons (pv 2) pa_nil)) pe_int) pa_nil)) (blkOk_by (own := [("place", 4)]) (N := n_Walk_init) (sc := defScope s_Walk_init) (by decide +kernel)) (fun _ _ _ _ _ => (pg_name (i := 4) sc_Walk_init.nd rfl (.inl rfl))) (fun _ _ _ _ _ => pts_nil) (fun _ _ _ _ _ => (pe_fn D_bitsT (hr.mono (by first | decide | omega)) rfl pass0 (pa_cons (pe_slice (sl_tupAK (K := K)) (pv 2) (po_some (pv 4)) po_none) pa_nil)))) rfl)
      (pss_cons (ps_fld (pv 0) pe_dnewT rfl)
      (pss_one (ps_fld (pv 0) pe_dnewT rfl)))))))), ?_⟩)
  · obtain ⟨_, _, _, _, _, _, rfl, _⟩ := h; rfl
  · obtain ⟨wk, dx, tb, ta, rows, t, rfl, hwk, htb, hn6, htn, hta, q⟩ := h
    obtain ⟨C, tx, ra, g1, hC, nr, ns, hrw⟩ := htb.rd T
    refine ⟨_, rfl, tb, C, tx, _, _, rfl, g1, hC, nr, rfl, fun cn dc hcn hdc hne => ?_⟩
    refine ⟨cn, dc, ra, rows, rfl, upd_same, hrw.same (fun b u e => by rw [upd_ne (ne_of_none e hcn), upd_ne (ne_of_none e hdc)]; exact e), hn6, fun H1 da hda sx hctr => ⟨rfl, ?_⟩⟩
    have s1 := made_same hcn hdc sx
    have hwk1 := s1 _ _ hwk
    have hda0 : H da = none := by
      rcases hq : H da with _ | u
      · rfl
      · rw [upd_ne (ne_of_none hq hcn), upd_ne (ne_of_none hq hdc), hq] at hda; cases hda
    refine ⟨_, rfl, wk, _, dx, [], rfl, hwk1, T.c_Walk, T.n_Walk_counter, by decide, ?_⟩
    refine ⟨_, rfl, _, rfl, wk, _, dx, _, rfl, upd_same, T.c_Walk, T.n_Walk_turn, (by show _ < 1000; exact (by decide : 1 < 1000)), ?_⟩
    refine ⟨_, rfl, _, rfl, wk, _, dx, _, rfl, upd_same, T.c_Walk, T.n_Walk_custom, (by show _ < 1000; exact (by decide : 2 < 1000)), ?_⟩
    rw [upd_upd, upd_upd]
    have hwk2 : upd H1 wk (.ins (He.ga K "Walk") dx (putF "custom" (.str "ahead") (putF "turn" (.ref ta) (putF "counter" (.ref cn) [])))) wk = some (.ins (He.ga K "Walk") dx [("counter", .ref cn), ("turn", .ref ta), ("custom", .str "ahead")]) := upd_same
    have x12 : SmX wk H1 (upd H1 wk (.ins (He.ga K "Walk") dx (putF "custom" (.str "ahead") (putF "turn" (.ref ta) (putF "counter" (.ref cn) []))))) := SmX.put (SmX.refl wk _)
    generalize upd H1 wk (.ins (He.ga K "Walk") dx (putF "custom" (.str "ahead") (putF "turn" (.ref ta) (putF "counter" (.ref cn) [])))) = H2 at hwk2 x12
    have nwk : ∀ xs, H1 wk ≠ some (.tup xs) := fun xs z => by rw [hwk1] at z; cases z
    have hta2 : H2 ta = some (.tup (t.map iV)) := x12 _ _ (fun z => nwk _ (by rw [← z]; exact s1 _ _ hta)) (s1 _ _ hta)
    have htl := turn_len htn
    have cw : cn ≠ wk := fun z => by rw [z] at hcn; rw [hcn] at hwk; cases hwk
    have dw : da ≠ wk := fun z => by rw [z] at hda0; rw [hda0] at hwk; cases hwk
    have hc2 : Ctr K H2 cn da rows := hctr.x x12 cw dw nwk
    refine ⟨_, rfl, _, _, rfl, .inr ⟨_, SqT.of hta2, rfl⟩, _, _, rfl, rfl, _, rfl, by rw [List.length_map]; omega, by rw [List.length_map]; omega, fun L hL => ?_⟩
    have en : ((((t.map iV).length : Nat) : Int) + 1).toNat = t.length + 1 := by rw [List.length_map]; omega
    refine lc_same (walk_rangeN (n := ((((t.map iV).length : Nat) : Int) + 1).toNat)) hL (fun i acc _ => acc = (List.range i).map fun j => iV (bsum (t.drop j))) (small1000 (by rw [en]; omega)) (fun _ _ => True.intro) (fun _ _ _ _ _ _ _ h => h) rfl ?_ ?_
    · rintro i v H3 H' acc Fin Skip hi hla k rr ⟨rfl, rfl⟩ fin skip
      rw [en] at hi
      refine ⟨rfl, _, rfl, _, rfl, _, rfl, slN_from (k := i) (k _ _ hta2) fun H4 p4 s4 hp4 => ?_⟩
      rw [← List.map_drop] at hp4
      refine ⟨p4, t.drop i, rfl, hp4, fun n hn => ?_, by rw [List.length_drop]; omega, fun H5 s5 => fin _ _ (Same.trans s4 s5) ?_⟩
      · have := (turn_lt htn).mp (List.mem_of_mem_drop hn); omega
      · rw [rr, List.range_succ, List.map_append]; rfl
    · intro H3 acc k hla hacc rr
      rw [en] at rr
      refine ⟨_, rfl, wk, _, dx, _, rfl, k _ _ hwk2, T.c_Walk, T.n_Walk_waiting, (by show _ < 1000; exact (by decide : 3 < 1000)), ?_⟩
      have Lw : L ≠ wk := (ne_of_none hwk2 hL).symm
      intro kp hkp
      have wkp : wk ≠ kp := ne_of_none upd_same hkp
      refine ⟨_, rfl, wk, _, dx, _, rfl, by rw [upd_ne wkp]; exact upd_same, T.c_Walk, T.n_Walk_kept, (by show _ < 1000; exact (by decide : 4 < 1000)), ?_⟩
      intro aa haa
      have waa : wk ≠ aa := ne_of_none upd_same haa
      refine ⟨_, rfl, wk, _, dx, _, rfl, by rw [upd_ne waa]; exact upd_same, T.c_Walk, T.n_Walk_all_through, (by show _ < 1000; exact (by decide : 5 < 1000)), ?_⟩
      have kp3 : H3 kp = none := by rw [upd_ne wkp.symm] at hkp; exact hkp
      have kaa : kp ≠ aa := ne_of_none (by rw [upd_ne wkp.symm]; exact upd_same) haa
      have aa3 : H3 aa = none := by rw [upd_ne waa.symm, upd_ne kaa.symm, upd_ne waa.symm] at haa; exact haa
      have go : ∀ (o1 o2 o3 : HO) b u, b ≠ wk → H3 b = some u → upd (upd (upd (upd (upd H3 wk o1) kp (.dT [])) wk o2) aa (.dT [])) wk o3 b = some u := fun o1 o2 o3 b u nb e => by
        rw [upd_ne nb, upd_ne (ne_of_none e aa3), upd_ne nb, upd_ne (ne_of_none e kp3), upd_ne nb]; exact e
      have s02 : SmX wk H H3 := fun b u nb e => k _ _ (x12 _ _ nb (s1 _ _ e))
      have hkp0 : H kp = none := by
        rcases hq : H kp with _ | u
        · rfl
        · rw [s02 _ _ wkp.symm hq] at kp3; cases kp3
      have hcn0 := hcn
      refine q _ cn da kp hcn hda0 hkp0 (fun b u nb e => go _ _ _ b u nb (s02 b u nb e)) ⟨⟨dx, ta, L, aa, upd_same, go _ _ _ _ _ (fun z => nwk _ (by rw [← z]; exact s1 _ _ hta)) (k _ _ hta2), go _ _ _ _ _ Lw (by rw [hacc, rr]), fun z => z⟩, ?_, ?_, [], ?_, KvOk.nil, fun i m v z => nomatch z⟩
      · exact (hc2.same k).x (b := wk) (go _ _ _) cw dw (fun xs z => by rw [k _ _ hwk2] at z; cases z)
      · obtain ⟨_, _, kv2, _, _, e3, _⟩ := id hc2
        intro z
        rw [← z, k _ _ e3] at kp3; cases kp3
      · rw [upd_ne wkp.symm, upd_ne kaa, upd_ne wkp.symm]; exact upd_same
end
end Fo
end
section
set_option Elab.async false
set_option linter.all false
set_option maxRecDepth 100000
set_option maxHeartbeats 8000000
set_option pp.maxSteps 900
namespace Fo
open PySem PySem.Spec PyProof.Rows L2 LamX NdefX
/-- all but dicts keyed by pairs stays -/
def KpD (H H' : Hp) : Prop := ∀ b u, (∀ kvs, u ≠ HO.dT kvs) → H b = some u → H' b = some u
theorem SmX.kd {H H' : Hp} {a : Addr} {kvs} (h : SmX a H H') (e : H a = some (.dT kvs)) : KpD H H' := fun b u n z => h b u (ne_of z e (n kvs)) z
theorem Same.kd {H H' : Hp} (h : Same H H') : KpD H H' := fun b u _ e => h b u e
theorem KpD.trans {H H1 H2 : Hp} (h : KpD H H1) (k : KpD H1 H2) : KpD H H2 := fun b u n e => k b u n (h b u n e)
theorem Chs.kd {N : Addr → Prop} {H H' : Hp} {rows : List (List Nat)} {t : List Nat} {i m : Nat} {v : V} (h : Chs N H rows t i m v) (k : KpD H H') : Chs N H' rows t i m v := by
  obtain ⟨q, l, p, r, h1, hn, h2, h3, h4, h5⟩ := h
  exact ⟨q, l, p, r, h1, hn, h2, h3, k _ _ (fun _ z => nomatch z) h4, k _ _ (fun _ z => nomatch z) h5⟩
theorem Wlk.cda {K : PySem.W.Frag} {N : Addr → Prop} {H : Hp} {wk cn da kp : Addr} {rows : List (List Nat)} {t : List Nat} (h : Wlk K N H wk cn da kp rows t) : ∃ kvs, H da = some (.dT kvs) := by
  obtain ⟨_, _, kvs, _, _, e, _⟩ := h.ctr
  exact ⟨kvs, e⟩
theorem live_same {N : Addr → Prop} {H H' : Hp} (k : Same H H') (h : ∀ a, N a → H a ≠ none) : ∀ a, N a → H' a ≠ none := fun a na z => by
  rcases hq : H a with _ | u
  · exact h a na hq
  · rw [k _ _ hq] at z; cases z
/-- the counter's dict is changed -/
theorem Wlk.x {K : PySem.W.Frag} {N : Addr → Prop} {H H' : Hp} {wk cn da kp : Addr} {rows : List (List Nat)} {t : List Nat} (h : Wlk K N H wk cn da kp rows t) (k : SmX da H H') (c : Ctr K H' cn da rows) : Wlk K N H' wk cn da kp rows t := by
  obtain ⟨kv, e⟩ := h.cda
  have kd := k.kd e
  obtain ⟨dx, ta, wa, aa, h1, h2, h3, nw⟩ := h.ins
  obtain ⟨kvs, g1, g2, g3⟩ := h.kept
  exact ⟨⟨dx, ta, wa, aa, kd _ _ (fun _ z => nomatch z) h1, kd _ _ (fun _ z => nomatch z) h2, kd _ _ (fun _ z => nomatch z) h3, nw⟩, c, h.ne, kvs, k _ _ h.ne.symm g1, g2, fun i m v z => (g3 i m v z).kd kd⟩
theorem Wlk.same {K : PySem.W.Frag} {N : Addr → Prop} {H H' : Hp} {wk cn da kp : Addr} {rows : List (List Nat)} {t : List Nat} (h : Wlk K N H wk cn da kp rows t) (k : Same H H') : Wlk K N H' wk cn da kp rows t := h.x (Same.x k da) (h.ctr.same k)
/-- one more is kept -/
theorem Wlk.put {K : PySem.W.Frag} {N : Addr → Prop} {H : Hp} {wk cn da kp : Addr} {rows : List (List Nat)} {t : List Nat} (h : Wlk K N H wk cn da kp rows t) {kvs : List (List Key × V)} (e : H kp = some (.dT kvs)) {i m : Nat} {v : V} (hi : i < 64) (hm : m < 64) (c : Chs N H rows t i m v) : Wlk K N (upd H kp (.dT (putK kvs (kk i m) v))) wk cn da kp rows t := by
  have k : SmX kp H (upd H kp (.dT (putK kvs (kk i m) v))) := SmX.put (SmX.refl kp H)
  have kd := k.kd e
  obtain ⟨dx, ta, wa, aa, h1, h2, h3, nw⟩ := h.ins
  obtain ⟨kvs', g1, g2, g3⟩ := h.kept
  rw [e] at g1
  cases g1
  have cn' : cn ≠ kp := by
    obtain ⟨_, _, _, c1, _⟩ := h.ctr
    exact ne_of c1 e (fun z => nomatch z)
  refine ⟨⟨dx, ta, wa, aa, kd _ _ (fun _ z => nomatch z) h1, kd _ _ (fun _ z => nomatch z) h2, kd _ _ (fun _ z => nomatch z) h3, nw⟩, h.ctr.x k cn' h.ne (fun xs z => by rw [e] at z; cases z), h.ne, _, upd_same, g2.put (mem_kSet hi hm) _, fun i' m' v' z => ?_⟩
  rw [valV_put] at z
  split at z
  · rename_i ek
    obtain ⟨rfl, rfl⟩ := kk_inj ek
    cases z
    exact c.kd kd
  · exact (g3 i' m' v' z).kd kd
theorem bsum_bit {n : Nat} {t : List Nat} (ht : IsTurn n t) (hn : n ≤ 6) (i j : Nat) : (bsum (t.drop i)).testBit j = decide (j ∈ t.drop i) :=
  bits_sum (t.drop i) ((turn_nd ht).sublist (List.drop_sublist i t)) (fun x hx => by have := (turn_lt ht).mp (List.mem_of_mem_drop hx); omega) j
theorem bsum_bits {n : Nat} {t : List Nat} (ht : IsTurn n t) (hn : n ≤ 6) (i : Nat) : (bitsOf (bsum (t.drop i))).Perm (t.drop i) :=
  perm_of_nodup (bitsOf_nodup _) ((turn_nd ht).sublist (List.drop_sublist i t)) fun x => by
    rw [mem_bitsOf, bsum_bit ht hn, decide_eq_true_iff]
    exact ⟨fun h => h.2, fun h => ⟨by have := (turn_lt ht).mp (List.mem_of_mem_drop h); omega, h⟩⟩
theorem bsum_lt {n : Nat} {t : List Nat} (ht : IsTurn n t) (hn : n ≤ 6) (i : Nat) : bsum (t.drop i) < 2 ^ n := Nat.lt_pow_two_of_testBit _ fun j hj => by
  rw [bsum_bit ht hn, decide_eq_false]
  intro z
  have := (turn_lt ht).mp (List.mem_of_mem_drop z)
  omega
theorem bsum_rest {n : Nat} {t : List Nat} (ht : IsTurn n t) (hn : n ≤ 6) {i q : Nat} (hi : t[i]? = some q) : (bitsOf (bsum (t.drop i) - 2 ^ q)).Perm (t.drop (i + 1)) := by
  have hd := drop_at hi
  have hb : (bsum (t.drop i)).testBit q = true := by rw [bsum_bit ht hn, hd]; exact decide_eq_true List.mem_cons_self
  have hq : q < 6 := by
    have : q ∈ t := List.mem_of_getElem? hi
    have := (turn_lt ht).mp this
    omega
  have h1 := bitsOf_clr hq hb
  have h2 := bsum_bits ht hn i
  rw [hd] at h2
  exact (List.perm_cons q).mp (h1.symm.trans (by rw [hd]; exact h2))
def spBegin (K : PySem.W.Frag) : Sp := fun vs H Q _ => ∃ (N : Addr → Prop) (wk cn da kp : Addr) (rows : List (List Nat)) (t : List Nat), vs = [.ref wk] ∧ Wlk K N H wk cn da kp rows t ∧ Q (iV (whole rows.length)) H
def spOver (K : PySem.W.Frag) : Sp := fun vs H Q _ => ∃ (N : Addr → Prop) (wk cn da kp : Addr) (rows : List (List Nat)) (t : List Nat) (i : Nat), vs = [.ref wk, iV i] ∧ Wlk K N H wk cn da kp rows t ∧ Q (.bl (decide (i = t.length))) H
/-- where a place and the things left stand in a turn -/
structure At6 (rows : List (List Nat)) (t : List Nat) (i m : Nat) : Prop where
  ro : RowsOk rows
  tn : IsTurn rows.length t
  hm : m < 64
  le : i ≤ t.length
  len : (bitsOf m).length = t.length - i
def spDrawn (K : PySem.W.Frag) : Sp := fun vs H Q _ => ∃ (N : Addr → Prop) (wk cn da kp : Addr) (rows : List (List Nat)) (t : List Nat) (i m : Nat), vs = [.ref wk, iV i, iV m] ∧ Wlk K N H wk cn da kp rows t ∧ At6 rows t i m ∧ i < t.length ∧ (∀ a, N a → H a ≠ none) ∧
  ∀ H' q, SmX da H H' → Wlk K N H' wk cn da kp rows t → Chs N H' rows t i m (.ref q) → Q (.ref q) H'
def spChoices (K : PySem.W.Frag) : Sp := fun vs H Q _ => ∃ (N : Addr → Prop) (wk cn da kp : Addr) (rows : List (List Nat)) (t : List Nat) (i m : Nat), vs = [.ref wk, iV i, iV m] ∧ Wlk K N H wk cn da kp rows t ∧ At6 rows t i m ∧ i < t.length ∧ (∀ a, N a → H a ≠ none) ∧
  ∀ H' q, Sm2 da kp H H' → Wlk K N H' wk cn da kp rows t → Chs N H' rows t i m (.ref q) → Q (.ref q) H'
section
variable {P : Program} {w : World} {K : PySem.W.Frag} {mg : Str → Option Value} {base : Heap}
theorem D_Walk_begin (T : Hd K mg) : Md P w K mg base CX0 1 "Walk" "begin" (spBegin K) := by
  obtain ⟨fd, F⟩ := T.d_Walk_begin
  refine ⟨T.c_Walk, T.m_Walk_begin, fd, ["self"], ?_, FunD.bindsN F fun _ _ _ _ _ _ us hl => match us, hl with | [_], _ => rfl⟩
  refine F.ok sc_Walk_begin (fun vs H Q E h => ?_) (fun cdv A outer s H vs Q E hr h => ⟨_, PSs.nox (pss_one (ps_ret (pe_fld (pe_fld (pv 0) rfl) rfl))), ?_⟩)
  · obtain ⟨_, _, _, _, _, _, _, rfl, _⟩ := h; rfl
  · obtain ⟨N, wk, cn, da, kp, rows, t, rfl, hw, q⟩ := h
    obtain ⟨dx, ta, wa, aa, h1, h2, h3, nw⟩ := hw.ins
    obtain ⟨cx, ra, kvs, c1, c2⟩ := hw.ctr
    exact ⟨_, rfl, wk, _, dx, _, _, rfl, h1, T.c_Walk, T.n_Walk_counter, rfl, cn, _, cx, _, _, rfl, c1, T.c_Counter, T.n_Counter_whole, rfl, q⟩
theorem D_Walk_is_over (T : Hd K mg) : Md P w K mg base CX0 1 "Walk" "is_over" (spOver K) := by
  obtain ⟨fd, F⟩ := T.d_Walk_is_over
  refine ⟨T.c_Walk, T.m_Walk_is_over, fd, ["self", "place"], ?_, FunD.bindsN F fun _ _ _ _ _ _ us hl => match us, hl with | [_, _], _ => rfl⟩
  refine F.ok sc_Walk_is_over (fun vs H Q E h => ?_) (fun cdv A outer s H vs Q E hr h => ⟨_, PSs.nox (pss_one (ps_ret (pe_cmpR op_eq (pv 1) (pe_callB call_len rfl T.f_len bt_len (pa_cons (pe_fld (pv 0) rfl) pa_nil)) (nomark _)))), ?_⟩)
  · obtain ⟨_, _, _, _, _, _, _, _, rfl, _⟩ := h; rfl
  · obtain ⟨N, wk, cn, da, kp, rows, t, i, rfl, hw, q⟩ := h
    obtain ⟨dx, ta, wa, aa, h1, h2, h3, nw⟩ := hw.ins
    refine ⟨_, rfl, _, rfl, wk, _, dx, _, _, rfl, h1, T.c_Walk, T.n_Walk_turn, rfl, _, _, rfl, .inr ⟨_, SqT.of h2, rfl⟩, rfl, ?_⟩
    have : decide (iV i = V.int (((t.map iV).length : Nat) : Int)) = decide (i = t.length) := decide_eq_decide.mpr ⟨fun z => by rw [List.length_map] at z; injection z with z; exact Int.ofNat.inj z, fun z => by rw [List.length_map, z]⟩
    rw [this]
    exact q
theorem D_Walk_drawn_from (T : Hd K mg) : Md P w K mg base CX0 17 "Walk" "drawn_from" (spDrawn K) := by
  have D_Counter_among := fun {P w base} => D_Counter_among (P := P) (w := w) (base := base) T
  have D_opens := fun {P w base} => D_opens (P := P) (w := w) (base := base) T
  obtain ⟨fd, F⟩ := T.d_Walk_drawn_from
  refine ⟨T.c_Walk, T.m_Walk_drawn_from, fd, ["self", "place", "things"], ?_, FunD.bindsN F fun _ _ _ _ _ _ us hl => match us, hl with | [_, _, _], _ => rfl⟩
  refine F.ok sc_Walk_drawn_from (fun vs H Q E h => ?_) (fun cdv A outer s H vs Q E hr h => ⟨_, PSs.nox (pss_cons (ps_set (i := 3) sc_Walk_drawn_from.nd rfl (.inl rfl) (pe_ix ix_tup (pe_fld (pv 0) rfl) (pv 1) (fun _ _ => rfl)))
      (pss_cons (ps_set (i := 4) sc_Walk_drawn_from.nd rfl (.inl rfl) (pe_md D_Counter_among (hr.mono (by first | decide | omega)) pass0 (pe_fld (pv 0) rfl) (pa_cons (pv 3) (pa_cons (pv 2) pa_nil))))
      (pss_cons (ps_if (pt_cmpR op_eq (pe_fld (pv 0) rfl) pe_str (nomark _))
        (pss_one (ps_setLc (i := 4) (own := [("thing", 5), ("many", 6)]) rfl sc_Walk_drawn_from.nd rfl rfl (sw_true rfl rfl rfl (by decide +kernel)) (pi_list (pe_fn D_opens (hr.mono (by first | decide | omega)) rfl pass0 (pa_cons (pe_fld (pv 0) rfl) (pa_cons (pe_ix ix_list (pe_fld (pv 0) rfl) (pv 1) (fun _ _ => rfl)) (pa_cons (pv 2) (pa_cons (pv 3) pa_nil)))))) (blkOk_by (own := [("thing", 5), ("many", 6)]) (N := n_Walk_drawn_from) (sc := defScope s_Walk_drawn_from) (by decide +kernel)) (fun _ _ _ _ _ => (pg_tupK (K := K) (n := 2) rfl (pgs_cons (pg_name (i := 5) sc_Walk_drawn_from.nd rfl (.inl rfl)) (pgs_cons (pg_name (i := 6) sc_Walk_drawn_from.nd rfl (.inl rfl)) pgs_nil)))) (fun _ _ _ _ _ => pts_nil) (fun _ _ _ _ _ => (pv 5))))
        (pss_one ps_never))
      (pss_one (ps_ret (pe_tup (pa_cons (pv 4) (pa_cons (pe_callB call_len rfl T.f_len bt_len (pa_cons (pv 4) pa_nil)) pa_nil)))))))), ?_⟩)
  · obtain ⟨_, _, _, _, _, _, _, _, _, rfl, _⟩ := h; rfl
  · obtain ⟨N, wk, cn, da, kp, rows, t, i, m, rfl, hw, at6, hi, live, q⟩ := h
    obtain ⟨ro, tn, hm, _, hlen⟩ := at6
    have hn6 := ro.len
    obtain ⟨dx, ta, wa, aa, h1, h2, h3, nw⟩ := hw.ins
    obtain ⟨cx, ra, kvs, c1, c2⟩ := id hw.ctr
    have hp : t[i]? = some t[i] := List.getElem?_eq_getElem hi
    generalize t[i] = p at hp
    have hpn : p < rows.length := (turn_lt tn).mp (List.mem_of_getElem? hp)
    have hrow : rows[p]? = some rows[p] := List.getElem?_eq_getElem hpn
    generalize rows[p] = r at hrow
    have hrm := List.mem_of_getElem? hrow
    have hrl : r.length ≤ 6 := by
      have := nodup_len (ro.nd r hrm) (k := List.range rows.length) (fun y hy => List.mem_range.mpr (ro.lt r hrm y hy))
      rw [List.length_range] at this
      omega
    refine ⟨_, rfl, wk, _, dx, _, _, rfl, h1, T.c_Walk, T.n_Walk_turn, rfl, _, rfl, ta, _, _, _, rfl, rfl, SqT.of h2, atI_nat (by rw [List.getElem?_map, hp]; rfl), ?_⟩
    refine ⟨_, rfl, wk, _, dx, _, _, rfl, h1, T.c_Walk, T.n_Walk_counter, rfl, cn, cx, _, rfl, c1, rfl, _, rfl, _, rfl, cn, da, rows, p, m, r, rfl, hw.ctr, hrow, by omega, fun H1 l1 hl1 s1 hl1e => ?_⟩
    have hw1 := hw.same s1
    refine ⟨_, rfl, wk, _, dx, _, _, rfl, s1 _ _ h1, T.c_Walk, T.n_Walk_custom, rfl, rfl, true, congrArg V.bl (decide_eq_true rfl), iteT ?_⟩
    have hpm := bsum_bit tn hn6 i p
    rw [drop_at hp, decide_eq_true List.mem_cons_self, ← drop_at hp] at hpm
    refine ⟨_, rfl, wk, _, dx, _, _, rfl, s1 _ _ h1, T.c_Walk, T.n_Walk_counter, rfl, _, rfl, wk, _, dx, _, _, rfl, s1 _ _ h1, T.c_Walk, T.n_Walk_waiting, rfl, _, rfl, wa, _, _, _, rfl, rfl, SqL.of (s1 _ _ h3), atI_nat (by rw [List.getElem?_map, List.getElem?_range (by omega)]; rfl), _, rfl, _, rfl, ?_⟩
    refine ⟨cn, da, rows, r, bsum (t.drop i), m, p, rfl, hw1.ctr, ro, bsum_lt tn hn6 i, hm, hpm, by rw [(bsum_bits tn hn6 i).length_eq, List.length_drop, hlen], hrow, fun H2 l2 hl2 s2 hc2 hprs => ?_⟩
    have hw2 := hw1.x s2 hc2
    obtain ⟨es, hl2e, htp⟩ := hprs
    rw [opsm_eq rows r (bsum_rest tn hn6 hp)] at htp
    have htp : Tups H2 es ((ops r (rst rows t (i + 1)) m).map fun e => [iV e.1, iV e.2]) := htp
    have hel := Paired.length htp
    rw [List.length_map] at hel
    have hol : (ops r (rst rows t (i + 1)) m).length ≤ r.length := by
      unfold ops
      refine Nat.le_trans (List.length_filter_le _ _) ?_
      rw [List.length_map]
      exact List.length_filter_le _ _
    refine ⟨l2, rfl, ⟨_, SqL.of hl2e⟩, fun D hD => ?_⟩
    refine lc_same walk_list hD (fun j acc _ => acc = ((ops r (rst rows t (i + 1)) m).take j).map fun e => iV e.1) (small1000 (by omega)) (fun H' k => SqL.of (k _ _ hl2e)) (fun _ _ _ _ _ _ _ h => h) rfl ?_ ?_
    · rintro j v H4 H' acc Fin Skip hj hla k rr ⟨rfl, yy⟩ fin skip
      obtain ⟨e2, he2, b, rfl, hb⟩ := paired_get htp yy
      obtain ⟨e, he, rfl⟩ := map_at he2
      refine ⟨b, _, rfl, SqT.of (k _ _ hb), rfl, _, _, rfl, _, _, rfl, rfl, rfl, _, rfl, fin _ _ (Same.refl _) ?_⟩
      rw [rr, take_snoc he, List.map_append]; rfl
    · intro H4 acc k hla hacc rr
      rw [hel, List.take_length] at rr
      subst rr
      refine ⟨_, rfl, _, rfl, _, _, rfl, .inl ⟨_, SqL.of hacc, rfl⟩, sz2, fun tp htp' => ?_⟩
      have s4 : Same H2 (upd H4 tp (.tup [.ref D, .int ((((ops r (rst rows t (i + 1)) m).map fun e => iV e.1).length : Nat) : Int)])) := Same.trans k (Same.new htp')
      obtain ⟨kv1, da1⟩ := hw1.cda
      refine q _ tp (fun b u nb e => s4 _ _ (s2 b u nb (s1 b u e))) (hw2.same s4) ⟨tp, D, p, r, rfl, fun z => ?_, hp, hrow, ?_, ?_⟩
      · have z2 := live D z
        rcases hq : H D with _ | u
        · exact z2 hq
        · have y1 := s1 _ _ hq
          have nda : D ≠ da := fun y => by rw [y] at hD; obtain ⟨kz, ez⟩ := hw2.cda; rw [ez] at hD; cases hD
          rw [s2 _ _ nda y1] at hD; cases hD
      · rw [upd_same, List.length_map]
      · rw [upd_ne (ne_of_none hacc htp')]; exact hacc
theorem D_Walk_choices (T : Hd K mg) : Md P w K mg base CX0 18 "Walk" "choices" (spChoices K) := by
  have D_Walk_drawn_from := fun {P w base} => D_Walk_drawn_from (P := P) (w := w) (base := base) T
  obtain ⟨fd, F⟩ := T.d_Walk_choices
  refine ⟨T.c_Walk, T.m_Walk_choices, fd, ["self", "place", "things"], ?_, FunD.bindsN F fun _ _ _ _ _ _ us hl => match us, hl with | [_, _, _], _ => rfl⟩
  refine F.ok sc_Walk_choices (fun vs H Q E h => ?_) (fun cdv A outer s H vs Q E hr h => ⟨_, PSs.nox (have hu := hu_of hr; (pss_cons (ps_if (pt_cmp (pc_dnotin hu (pe_tup (pa_cons (pv 1) (pa_cons (pv 2) pa_nil))) (pe_fld (pv 0) rfl)) rfl)
        (pss_one (ps_dput hu (pe_fld (pv 0) rfl) (pe_tup (pa_cons (pv 1) (pa_cons (pv 2) pa_nil))) (pe_md D_Walk_drawn_from (hr.mono (by first | decide | omega)) pass0 (pv 0) (pa_cons (pv 1) (pa_cons (pv 2) pa_nil))) rfl))
        pss_nil)
      (pss_one (ps_ret (pe_dget hu (pe_fld (pv 0) rfl) (pe_tup (pa_cons (pv 1) (pa_cons (pv 2) pa_nil))) (fun _ _ => rfl)))))), ?_⟩)
  · obtain ⟨_, _, _, _, _, _, _, _, _, rfl, _⟩ := h; rfl
  · obtain ⟨N, wk, cn, da, kp, rows, t, i, m, rfl, hw, at6, hi, live, q⟩ := h
    have hn6 := at6.ro.len
    have htl := turn_len at6.tn
    obtain ⟨dx, ta, wa, aa, h1, h2, h3, nw⟩ := id hw.ins
    obtain ⟨kvs, g1, g2, g3⟩ := hw.kept
    -- the end: what is kept is handed back
    have fin : ∀ {H1 : Hp} {v : V} {kv1 : List (List Key × V)}, Sm2 da kp H H1 → Wlk K N H1 wk cn da kp rows t → H1 wk = some (.ins (He.ga K "Walk") dx [("counter", .ref cn), ("turn", .ref ta), ("custom", .str "ahead"), ("waiting", .ref wa), ("kept", .ref kp), ("all_through", .ref aa)]) → H1 kp = some (.dT kv1) → valV kv1 (kk i m) = some v → ∀ kq, H1 kq = none →
        ∃ (d : Addr) (x : V), V.ref kp = .ref d ∧ DGet (upd H1 kq (.tup [iV i, iV m])) d (.ref kq) (some x) ∧ Q x (upd H1 kq (.tup [iV i, iV m])) := fun {H1 v kv1} s hw1 _ hk hv kq hkq => by
      have sn : Same H1 (upd H1 kq (.tup [iV i, iV m])) := Same.new hkq
      refine ⟨kp, v, rfl, by rw [← hv]; exact DGet.t (sn _ _ hk) (by exact upd_same), ?_⟩
      obtain ⟨kv2, e1, e2, e3⟩ := hw1.kept
      rw [hk] at e1
      cases e1
      have c := e3 i m v hv
      obtain ⟨y, _, _, _, rfl, _⟩ := id c
      exact q _ y (fun b u n1 n2 e => sn _ _ (s b u n1 n2 e)) (hw1.same sn) (c.kd (Same.kd sn))
    refine ⟨_, rfl, _, rfl, sz2, fun kq hkq => ?_⟩
    have sm : Same H (upd H kq (.tup [iV i, iV m])) := Same.new hkq
    have hk : (upd H kq (.tup [iV i, iV m])) kq = some (.tup ((kk i m).map kV)) := upd_same
    generalize (upd H kq (.tup [iV i, iV m])) = H1 at sm hk
    have hw1 := hw.same sm
    refine ⟨_, rfl, wk, _, dx, _, _, rfl, sm _ _ h1, T.c_Walk, T.n_Walk_kept, rfl, kp, _, rfl, DGet.t (sm _ _ g1) hk, ?_⟩
    cases hv : valV kvs (kk i m) with
    | some v =>
      refine ⟨false, rfl, iteF ?_⟩
      refine ⟨_, rfl, wk, _, dx, _, _, rfl, sm _ _ h1, T.c_Walk, T.n_Walk_kept, rfl, _, rfl, _, rfl, sz2, fun kq2 hkq2 => ?_⟩
      exact fin (fun b u _ _ e => sm b u e) hw1 (sm _ _ h1) (sm _ _ g1) hv kq2 hkq2
    | none =>
      refine ⟨true, rfl, iteT ?_⟩
      refine ⟨_, rfl, wk, dx, _, rfl, sm _ _ h1, rfl, _, rfl, _, rfl, N, wk, cn, da, kp, rows, t, i, m, rfl, hw1, at6, hi, live_same sm live, fun H2 y s2 hw2 hc => ?_⟩
      have hkp2 : H2 kp = some (.dT kvs) := s2 _ _ hw.ne.symm (sm _ _ g1)
      have hda1 := hw1.cda
      obtain ⟨kvd, hda1⟩ := hda1
      have hwk2 := s2 _ _ (ne_of (sm _ _ h1) hda1 (fun z => nomatch z)) (sm _ _ h1)
      refine ⟨_, rfl, wk, _, dx, _, _, rfl, hwk2, T.c_Walk, T.n_Walk_kept, rfl, _, rfl, _, rfl, sz2, fun kq2 hkq2 => ?_⟩
      have s3 : Same H2 (upd H2 kq2 (.tup [iV i, iV m])) := Same.new hkq2
      have hk3 : (upd H2 kq2 (.tup [iV i, iV m])) kq2 = some (.tup ((kk i m).map kV)) := upd_same
      generalize (upd H2 kq2 (.tup [iV i, iV m])) = H3 at s3 hk3
      have hlen := g2.len
      rw [kSet_len] at hlen
      refine ⟨kp, _, rfl, DPut.t (s3 _ _ hkp2) hk3 (by rw [sizeLine_eq]; omega), ?_⟩
      have hw3 := (hw2.same s3).put (s3 _ _ hkp2) (by omega) at6.hm (hc.kd (Same.kd s3))
      have nwk : wk ≠ kp := ne_of h1 g1 (fun z => nomatch z)
      refine ⟨_, rfl, wk, _, dx, _, _, rfl, by rw [upd_ne nwk]; exact s3 _ _ hwk2, T.c_Walk, T.n_Walk_kept, rfl, _, rfl, _, rfl, sz2, fun kq3 hkq3 => ?_⟩
      refine fin (fun b u n1 n2 e => ?_) hw3 (by rw [upd_ne nwk]; exact s3 _ _ hwk2) upd_same (by rw [valV_put, if_pos rfl]) kq3 hkq3
      rw [upd_ne n2]
      exact s3 _ _ (s2 _ _ n1 (sm _ _ e))
end
end Fo
end
section
set_option Elab.async false
set_option linter.all false
set_option maxRecDepth 100000
set_option maxHeartbeats 8000000
set_option pp.maxSteps 900
namespace Fo
open PySem PySem.Spec PyProof.Rows L2 LamX NdefX
theorem KpD.at {H H' : Hp} {b : Addr} {u : HO} (k : KpD H H') (e : H b = some u) (n : ∀ kvs, u ≠ HO.dT kvs) : H' b = some u := k b u n e
theorem ins_fs {C C' dx dx' : Addr} {fs fs' : List (PySem.Str × V)} (h : some (HO.ins C dx fs) = some (HO.ins C' dx' fs')) : fs = fs' := by
  injection h with h
  injection h
/-- all but three stays -/
def Sm3 (a b c : Addr) (H H' : Hp) : Prop := ∀ d u, d ≠ a → d ≠ b → d ≠ c → H d = some u → H' d = some u
theorem Sm3.trans {a b c : Addr} {H H1 H2 : Hp} (h : Sm3 a b c H H1) (k : Sm3 a b c H1 H2) : Sm3 a b c H H2 := fun d u n1 n2 n3 e => k d u n1 n2 n3 (h d u n1 n2 n3 e)
theorem Sm2.kd {H H' : Hp} {a b : Addr} {kv1 kv2} (h : Sm2 a b H H') (e1 : H a = some (.dT kv1)) (e2 : H b = some (.dT kv2)) : KpD H H' := fun d u n z => h d u (ne_of z e1 (n kv1)) (ne_of z e2 (n kv2)) z
theorem Sm3.kd {H H' : Hp} {a b c : Addr} {kv1 kv2 kv3} (h : Sm3 a b c H H') (e1 : H a = some (.dT kv1)) (e2 : H b = some (.dT kv2)) (e3 : H c = some (.dT kv3)) : KpD H H' := fun d u n z => h d u (ne_of z e1 (n kv1)) (ne_of z e2 (n kv2)) (ne_of z e3 (n kv3)) z
theorem Sm2.three {H H' : Hp} {a b : Addr} (h : Sm2 a b H H') (c : Addr) : Sm3 a b c H H' := fun d u n1 n2 _ e => h d u n1 n2 e
theorem Same.three {H H' : Hp} (h : Same H H') (a b c : Addr) : Sm3 a b c H H' := fun d u _ _ _ e => h d u e
theorem Fr.kd {H H' : Hp} {v : V} {a b : Nat} (h : Fr H v a b) (k : KpD H H') : Fr H' v a b := by
  obtain ⟨p, e, z⟩ := h
  exact ⟨p, e, k _ _ (fun _ y => nomatch y) z⟩
structure Nar (K : PySem.W.Frag) (N : Addr → Prop) (H : Hp) (nr wk cn da kp kn : Addr) (rows : List (List Nat)) (t : List Nat) : Prop where
  ins : ∃ dx fd, H nr = some (.ins (He.ga K "Narrowed") dx [("walk", .ref wk), ("forced", .ref fd), ("known", .ref kn)]) ∧ H fd = some (.dK [])
  wlk : Wlk K N H wk cn da kp rows t
  n1 : da ≠ kn
  n2 : kp ≠ kn
  known : ∃ kvs, H kn = some (.dT kvs) ∧ KvOk kSet kvs ∧ ∀ i m v, valV kvs (kk i m) = some v → ∃ lo hi, Fr H v lo hi ∧ Pb (rst rows t i) m lo hi
section
variable {K : PySem.W.Frag} {N : Addr → Prop} {H H' : Hp} {nr wk cn da kp kn : Addr} {rows : List (List Nat)} {t : List Nat}
theorem Nar.dts (h : Nar K N H nr wk cn da kp kn rows t) : ∃ kv1 kv2 kv3, H da = some (.dT kv1) ∧ H kp = some (.dT kv2) ∧ H kn = some (.dT kv3) := by
  obtain ⟨kv1, e1⟩ := h.wlk.cda
  obtain ⟨kv2, e2, _⟩ := h.wlk.kept
  obtain ⟨kv3, e3, _⟩ := h.known
  exact ⟨kv1, kv2, kv3, e1, e2, e3⟩
theorem Nar.w (h : Nar K N H nr wk cn da kp kn rows t) (k : Sm2 da kp H H') (hw : Wlk K N H' wk cn da kp rows t) : Nar K N H' nr wk cn da kp kn rows t := by
  obtain ⟨kv1, kv2, kv3, e1, e2, e3⟩ := h.dts
  have kd := k.kd e1 e2
  obtain ⟨dx, fd, h1, h2⟩ := h.ins
  obtain ⟨kvs, g1, g2, g3⟩ := h.known
  refine ⟨⟨dx, fd, kd _ _ (fun _ z => nomatch z) h1, kd _ _ (fun _ z => nomatch z) h2⟩, hw, h.n1, h.n2, kvs, k _ _ h.n1.symm h.n2.symm g1, g2, fun i m v z => ?_⟩
  obtain ⟨lo, hi, a, b⟩ := g3 i m v z
  exact ⟨lo, hi, a.kd kd, b⟩
theorem Nar.same (h : Nar K N H nr wk cn da kp kn rows t) (k : Same H H') : Nar K N H' nr wk cn da kp kn rows t := h.w (fun d u _ _ e => k d u e) (h.wlk.same k)
/-- the walk stands when what is known is changed -/
theorem Wlk.o {b : Addr} (h : Wlk K N H wk cn da kp rows t) (k : SmX b H H') {kv} (e : H b = some (.dT kv)) (n1 : da ≠ b) (n2 : kp ≠ b) : Wlk K N H' wk cn da kp rows t := by
  have kd := k.kd e
  obtain ⟨dx, ta, wa, aa, h1, h2, h3, nw⟩ := h.ins
  obtain ⟨kvs, g1, g2, g3⟩ := h.kept
  have cn' : cn ≠ b := by
    obtain ⟨_, _, _, c1, _⟩ := h.ctr
    exact ne_of c1 e (fun z => nomatch z)
  exact ⟨⟨dx, ta, wa, aa, kd _ _ (fun _ z => nomatch z) h1, kd _ _ (fun _ z => nomatch z) h2, kd _ _ (fun _ z => nomatch z) h3, nw⟩, h.ctr.x k cn' n1 (fun xs z => by rw [e] at z; cases z), h.ne, kvs, k _ _ n2 g1, g2, fun i m v z => (g3 i m v z).kd kd⟩
theorem Nar.put (h : Nar K N H nr wk cn da kp kn rows t) {kvs : List (List Key × V)} (e : H kn = some (.dT kvs)) {i m : Nat} {v : V} {lo hi : Nat} (hi64 : i < 64) (hm : m < 64) (c : Fr H v lo hi) (pb : Pb (rst rows t i) m lo hi) : Nar K N (upd H kn (.dT (putK kvs (kk i m) v))) nr wk cn da kp kn rows t := by
  have k : SmX kn H (upd H kn (.dT (putK kvs (kk i m) v))) := SmX.put (SmX.refl kn H)
  have kd := k.kd e
  obtain ⟨dx, fd, h1, h2⟩ := h.ins
  obtain ⟨kvs', g1, g2, g3⟩ := h.known
  rw [e] at g1
  cases g1
  refine ⟨⟨dx, fd, kd _ _ (fun _ z => nomatch z) h1, kd _ _ (fun _ z => nomatch z) h2⟩, h.wlk.o k e h.n1 h.n2, h.n1, h.n2, _, upd_same, g2.put (mem_kSet hi64 hm) _, fun i' m' v' z => ?_⟩
  rw [valV_put] at z
  split at z
  · rename_i ek
    obtain ⟨rfl, rfl⟩ := kk_inj ek
    cases z
    exact ⟨lo, hi, c.kd kd, pb⟩
  · obtain ⟨lo', hi', a, b⟩ := g3 i' m' v' z
    exact ⟨lo', hi', a.kd kd, b⟩
end
section
variable {K : PySem.W.Frag} {N N' : Addr → Prop} {H H' : Hp} {nr wk cn da kp kn D : Addr} {rows : List (List Nat)} {t : List Nat} {ys : List V}
theorem Wlk.add (h : Wlk K N H wk cn da kp rows t) (hD : H D = none) : Wlk K (fun a => N a ∨ a = D) H wk cn da kp rows t := by
  obtain ⟨dx, ta, wa, aa, h1, h2, h3, nw⟩ := h.ins
  obtain ⟨kvs, g1, g2, g3⟩ := h.kept
  refine ⟨⟨dx, ta, wa, aa, h1, h2, h3, fun z => z.elim nw (ne_of_none h3 hD)⟩, h.ctr, h.ne, kvs, g1, g2, fun i m v z => ?_⟩
  obtain ⟨q, l, p, r, a1, an, a2, a3, a4, a5⟩ := g3 i m v z
  exact ⟨q, l, p, r, a1, fun y => y.elim an (ne_of_none a5 hD), a2, a3, a4, a5⟩
theorem Wlk.sub (h : Wlk K N' H wk cn da kp rows t) (k : ∀ a, N a → N' a) : Wlk K N H wk cn da kp rows t := by
  obtain ⟨dx, ta, wa, aa, h1, h2, h3, nw⟩ := h.ins
  obtain ⟨kvs, g1, g2, g3⟩ := h.kept
  refine ⟨⟨dx, ta, wa, aa, h1, h2, h3, fun z => nw (k _ z)⟩, h.ctr, h.ne, kvs, g1, g2, fun i m v z => ?_⟩
  obtain ⟨q, l, p, r, a1, an, a2, a3, a4, a5⟩ := g3 i m v z
  exact ⟨q, l, p, r, a1, fun y => an (k _ y), a2, a3, a4, a5⟩
/-- a list that is not the walk's own is changed -/
theorem Wlk.lst (h : Wlk K N H wk cn da kp rows t) (hN : N D) (e : H D = some (.lst ys)) (k : SmX D H H') : Wlk K N H' wk cn da kp rows t := by
  obtain ⟨dx, ta, wa, aa, h1, h2, h3, nw⟩ := h.ins
  obtain ⟨kvs, g1, g2, g3⟩ := h.kept
  refine ⟨⟨dx, ta, wa, aa, k _ _ (ne_of h1 e (fun z => nomatch z)) h1, k _ _ (ne_of h2 e (fun z => nomatch z)) h2, k _ _ (fun z => nw (z ▸ hN)) h3, nw⟩, h.ctr.kl (SmX.kl k e), h.ne, kvs, k _ _ (ne_of g1 e (fun z => nomatch z)) g1, g2, fun i m v z => ?_⟩
  obtain ⟨q, l, p, r, a1, an, a2, a3, a4, a5⟩ := g3 i m v z
  exact ⟨q, l, p, r, a1, an, a2, a3, k _ _ (ne_of a4 e (fun z => nomatch z)) a4, k _ _ (fun y => an (y ▸ hN)) a5⟩
theorem Nar.add (h : Nar K N H nr wk cn da kp kn rows t) (hD : H D = none) : Nar K (fun a => N a ∨ a = D) H nr wk cn da kp kn rows t := ⟨h.ins, h.wlk.add hD, h.n1, h.n2, h.known⟩
theorem Nar.sub (h : Nar K N' H nr wk cn da kp kn rows t) (k : ∀ a, N a → N' a) : Nar K N H nr wk cn da kp kn rows t := ⟨h.ins, h.wlk.sub k, h.n1, h.n2, h.known⟩
theorem Nar.lst (h : Nar K N H nr wk cn da kp kn rows t) (hN : N D) (e : H D = some (.lst ys)) (k : SmX D H H') : Nar K N H' nr wk cn da kp kn rows t := by
  obtain ⟨dx, fd, h1, h2⟩ := h.ins
  obtain ⟨kvs, g1, g2, g3⟩ := h.known
  refine ⟨⟨dx, fd, k _ _ (ne_of h1 e (fun z => nomatch z)) h1, k _ _ (ne_of h2 e (fun z => nomatch z)) h2⟩, h.wlk.lst hN e k, h.n1, h.n2, kvs, k _ _ (ne_of g1 e (fun z => nomatch z)) g1, g2, fun i m v z => ?_⟩
  obtain ⟨lo, hi, ⟨p, a, b⟩, c⟩ := g3 i m v z
  exact ⟨lo, hi, ⟨p, a, k _ _ (ne_of b e (fun z => nomatch z)) b⟩, c⟩
theorem Nar.live (h : Nar K N' H' nr wk cn da kp kn rows t) (k : Sm3 da kp kn H H') (l : ∀ a, N a → H a ≠ none) : ∀ a, N a → H' a ≠ none := fun a na z => by
  obtain ⟨_, _, _, e1, e2, e3⟩ := h.dts
  rcases hq : H a with _ | u
  · exact l a na hq
  · rw [k _ _ (fun y => by rw [y, e1] at z; cases z) (fun y => by rw [y, e2] at z; cases z) (fun y => by rw [y, e3] at z; cases z) hq] at z; cases z
end
theorem Tups.kd {H H' : Hp} {vs : List V} {ts : List (List V)} (h : Tups H vs ts) (k : KpD H H') : Tups H' vs ts := Paired.mapP h fun _ _ ⟨p, e, q⟩ => ⟨p, e, k _ _ (fun _ z => nomatch z) q⟩
theorem rst_at {rows : List (List Nat)} {t : List Nat} {i p : Nat} {r : List Nat} (hp : t[i]? = some p) (hr : rows[p]? = some r) : rst rows t i = r :: rst rows t (i + 1) := by
  unfold rst
  rw [drop_at hp, List.map_cons, rowOf_eq hr]
/-- the next place -/
theorem At6.next {rows : List (List Nat)} {t : List Nat} {i m x : Nat} (h : At6 rows t i m) (hi : i < t.length) (hx : x < 6) (hb : m.testBit x = true) : At6 rows t (i + 1) (m - 2 ^ x) := by
  have := bitsOf_len hx hb
  have := h.len
  exact ⟨h.ro, h.tn, Nat.lt_of_le_of_lt (Nat.sub_le _ _) h.hm, hi, by omega⟩
def spNarInit (K : PySem.W.Frag) : Sp := fun vs H Q _ => ∃ (N : Addr → Prop) (nr dx wk fd cn da kp : Addr) (rows : List (List Nat)) (t : List Nat), vs = [.ref nr, .ref wk, .ref fd] ∧ H nr = some (.ins (He.ga K "Narrowed") dx []) ∧ H fd = some (.dK []) ∧ Wlk K N H wk cn da kp rows t ∧
  ∀ H' kn, H kn = none → SmX nr H H' → Nar K N H' nr wk cn da kp kn rows t → Q .non H'
def spNarAmong (K : PySem.W.Frag) : Sp := fun vs H Q _ => ∃ (N : Addr → Prop) (nr wk cn da kp kn : Addr) (rows : List (List Nat)) (t : List Nat) (i m : Nat), vs = [.ref nr, iV i, iV m] ∧ Nar K N H nr wk cn da kp kn rows t ∧ At6 rows t i m ∧ i < t.length ∧ (∀ a, N a → H a ≠ none) ∧
  ∀ H' q, Sm2 da kp H H' → Nar K N H' nr wk cn da kp kn rows t → Chs N H' rows t i m (.ref q) → Q (.ref q) H'
def spProd (K : PySem.W.Frag) (d : Nat) : Sp := fun vs H Q _ => ∃ (N : Addr → Prop) (nr wk cn da kp kn : Addr) (rows : List (List Nat)) (t : List Nat) (i m : Nat), vs = [.ref nr, iV i, iV m] ∧ Nar K N H nr wk cn da kp kn rows t ∧ At6 rows t i m ∧ t.length - i ≤ d ∧ 0 < cnt (rst rows t i) m ∧ (∀ a, N a → H a ≠ none) ∧
  ∀ H' v lo hi, Sm3 da kp kn H H' → Nar K N H' nr wk cn da kp kn rows t → Fr H' v lo hi → Pb (rst rows t i) m lo hi → Q v H'
section
variable {P : Program} {w : World} {K : PySem.W.Frag} {mg : Str → Option Value} {base : Heap}
theorem D_Narrowed_init (T : Hd K mg) : Cn P w K mg base CX0 1 "Narrowed" (spNarInit K) := by
  obtain ⟨fd, F⟩ := T.d_Narrowed_init
  refine ⟨T.g_Narrowed, T.mk_Narrowed, fd, ["self", "walk", "forced"], ?_, FunD.bindsN F fun _ _ _ _ _ _ us hl => match us, hl with | [_, _, _], _ => rfl⟩
  refine F.ok sc_Narrowed_init (fun vs H Q E h => ?_) (fun cdv A outer s H vs Q E hr h => ⟨_, PSs.nox (pss_cons (ps_fld (pv 0) (pv 1) rfl)
      (pss_cons (ps_fld (pv 0) (pv 2) rfl)
      (pss_one (ps_fld (pv 0) pe_dnewT rfl)))), ?_⟩)
  · obtain ⟨_, _, _, _, _, _, _, _, _, _, rfl, _⟩ := h; rfl
  · obtain ⟨N, nr, dx, wk, fd, cn, da, kp, rows, t, rfl, hnr, hfd, hw, q⟩ := h
    have nf : fd ≠ nr := ne_of hfd hnr (fun z => nomatch z)
    refine ⟨_, rfl, _, rfl, nr, _, dx, [], rfl, hnr, T.c_Narrowed, T.n_Narrowed_walk, by decide, ?_⟩
    refine ⟨_, rfl, _, rfl, nr, _, dx, _, rfl, upd_same, T.c_Narrowed, T.n_Narrowed_forced, (by show _ < 1000; exact (by decide : 1 < 1000)), ?_⟩
    rw [upd_upd]
    intro kn hkn
    have nk : nr ≠ kn := ne_of_none upd_same hkn
    have hkn0 : H kn = none := by rw [upd_ne nk.symm] at hkn; exact hkn
    refine ⟨_, rfl, nr, _, dx, _, rfl, by rw [upd_ne nk]; exact upd_same, T.c_Narrowed, T.n_Narrowed_known, (by show _ < 1000; exact (by decide : 2 < 1000)), ?_⟩
    have go : ∀ (o1 o2 : HO) b u, b ≠ nr → H b = some u → upd (upd (upd H nr o1) kn (.dT [])) nr o2 b = some u := fun o1 o2 b u nb e => by
      rw [upd_ne nb, upd_ne (ne_of_none e hkn0), upd_ne nb]; exact e
    obtain ⟨kvd, hda⟩ := hw.cda
    obtain ⟨kvp, hkp, kq⟩ := id hw.kept
    obtain ⟨wx, ta, wa, aa, h1, h2, h3, nw⟩ := id hw.ins
    obtain ⟨cx, ra, kvc, c1, c2⟩ := id hw.ctr
    have hw' : ∀ o1 o2 : HO, Wlk K N (upd (upd (upd H nr o1) kn (.dT [])) nr o2) wk cn da kp rows t := fun o1 o2 => by
      refine ⟨⟨wx, ta, wa, aa, go o1 o2 _ _ (fun z => ?_) h1, go o1 o2 _ _ (ne_of h2 hnr (fun z => nomatch z)) h2, go o1 o2 _ _ (ne_of h3 hnr (fun z => nomatch z)) h3, nw⟩, hw.ctr.x (b := nr) (go o1 o2) (fun z => ?_) (ne_of hda hnr (fun z => nomatch z)) (fun xs z => by rw [hnr] at z; cases z), hw.ne, kvp, go o1 o2 _ _ (ne_of hkp hnr (fun z => nomatch z)) hkp, kq.1, fun i m v z => ?_⟩
      · rw [z, hnr] at h1; exact nomatch (ins_fs h1)
      · rw [z, hnr] at c1; exact nomatch (ins_fs c1)
      · obtain ⟨q, l, p, r, a1, an, a2, a3, a4, a5⟩ := kq.2 i m v z
        exact ⟨q, l, p, r, a1, an, a2, a3, go o1 o2 _ _ (ne_of a4 hnr (fun z => nomatch z)) a4, go o1 o2 _ _ (ne_of a5 hnr (fun z => nomatch z)) a5⟩
    exact q _ kn hkn0 (go _ _) ⟨⟨dx, fd, upd_same, go _ _ _ _ nf hfd⟩, hw' _ _, ne_of_none hda hkn0, ne_of_none hkp hkn0, [], by rw [upd_ne nk.symm]; exact upd_same, KvOk.nil, fun i m v z => nomatch z⟩
theorem D_Narrowed_among (T : Hd K mg) : Md P w K mg base CX0 19 "Narrowed" "among" (spNarAmong K) := by
  have D_Walk_choices := fun {P w base} => D_Walk_choices (P := P) (w := w) (base := base) T
  obtain ⟨fd, F⟩ := T.d_Narrowed_among
  refine ⟨T.c_Narrowed, T.m_Narrowed_among, fd, ["self", "place", "things"], ?_, FunD.bindsN F fun _ _ _ _ _ _ us hl => match us, hl with | [_, _, _], _ => rfl⟩
  refine F.ok sc_Narrowed_among (fun vs H Q E h => ?_) (fun cdv A outer s H vs Q E hr h => ⟨_, PSs.nox (have hu := hu_of hr; (pss_cons (ps_asg (pe_md D_Walk_choices (hr.mono (by first | decide | omega)) pass0 (pe_fld (pv 0) rfl) (pa_cons (pv 1) (pa_cons (pv 2) pa_nil))) (pg_tup rfl (pgs_cons (pg_name (i := 3) sc_Narrowed_among.nd rfl (.inl rfl)) (pgs_cons (pg_name (i := 4) sc_Narrowed_among.nd rfl (.inl rfl)) pgs_nil))))
      (pss_cons (ps_set (i := 5) sc_Narrowed_among.nd rfl (.inr rfl) (pe_ix ix_tup (pe_fld (pe_fld (pv 0) rfl) rfl) (pv 1) (fun _ _ => rfl)))
      (pss_cons (ps_if (pt_cmp (pc_din hu (pv 5) (pe_fld (pv 0) rfl)) rfl)
        (pss_one ps_never)
        pss_nil)
      (pss_one (ps_ret (pe_tup (pa_cons (pv 3) (pa_cons (pv 4) pa_nil))))))))), ?_⟩)
  · obtain ⟨_, _, _, _, _, _, _, _, _, _, _, rfl, _⟩ := h; rfl
  · obtain ⟨N, nr, wk, cn, da, kp, kn, rows, t, i, m, rfl, hnar, at6, hi, live, q⟩ := h
    obtain ⟨dx, fd, h1, h2⟩ := hnar.ins
    obtain ⟨wx, ta, wa, aa, w1, w2, w3, nw⟩ := hnar.wlk.ins
    obtain ⟨kv1, kv2, kv3, e1, e2, e3⟩ := hnar.dts
    refine ⟨_, rfl, nr, _, dx, _, _, rfl, h1, T.c_Narrowed, T.n_Narrowed_walk, rfl, wk, wx, _, rfl, w1, rfl, _, rfl, _, rfl, N, wk, cn, da, kp, rows, t, i, m, rfl, hnar.wlk, at6, hi, live, fun H1 y s1 hw1 hc => ?_⟩
    have kd := s1.kd e1 e2
    obtain ⟨y', l, p, r, a1, an, a2, a3, a4, a5⟩ := hc
    cases a1
    refine ⟨y, _, rfl, SqT.of a4, rfl, _, _, rfl, _, _, rfl, rfl, ?_⟩
    have h1' := kd.at h1 (fun _ z => nomatch z)
    have w1' := kd.at w1 (fun _ z => nomatch z)
    have w2' := kd.at w2 (fun _ z => nomatch z)
    refine ⟨_, rfl, nr, _, dx, _, _, rfl, h1', T.c_Narrowed, T.n_Narrowed_walk, rfl, wk, _, wx, _, _, rfl, w1', T.c_Walk, T.n_Walk_turn, rfl, _, rfl, ta, _, _, _, rfl, rfl, SqT.of w2', atI_nat (by rw [List.getElem?_map, a2]; rfl), ?_⟩
    refine ⟨_, rfl, _, rfl, nr, _, dx, _, _, rfl, h1', T.c_Narrowed, T.n_Narrowed_forced, rfl, fd, _, rfl, DGet.k (k := Sum.inl ((p : Nat) : Int)) (kd.at h2 (fun _ z => nomatch z)), false, rfl, iteF ?_⟩
    refine ⟨_, rfl, _, rfl, sz2, fun tp htp => ?_⟩
    have sn : Same H1 (upd H1 tp (.tup [.ref l, iV (ops r (rst rows t (i + 1)) m).length])) := Same.new htp
    exact q _ tp (fun b u n1 n2 e => sn _ _ (s1 b u n1 n2 e)) ((hnar.w s1 hw1).same sn) ⟨tp, l, p, r, rfl, an, a2, a3, upd_same, sn _ _ a5⟩
theorem D_Narrowed_products_step (T : Hd K mg) (d : Nat) (sp' : Sp) (ih : ∀ {P : Program} {w : World} {base : Heap}, Md P w K mg base CX0 (2 * d + 20) "Narrowed" "products" sp') (hsp : ∀ d', d = d' + 1 → sp' = spProd K d') : Md P w K mg base CX0 (2 * d + 22) "Narrowed" "products" (spProd K d) := by
  have D_Walk_is_over := fun {P w base} => D_Walk_is_over (P := P) (w := w) (base := base) T
  have D_Narrowed_among := fun {P w base} => D_Narrowed_among (P := P) (w := w) (base := base) T
  have D_without := fun {P w base} => D_without (P := P) (w := w) (base := base) T
  obtain ⟨fd, F⟩ := T.d_Narrowed_products
  refine ⟨T.c_Narrowed, T.m_Narrowed_products, fd, ["self", "place", "things"], ?_, FunD.bindsN F fun _ _ _ _ _ _ us hl => match us, hl with | [_, _, _], _ => rfl⟩
  refine F.ok sc_Narrowed_products (fun vs H Q E h => ?_) (fun cdv A outer s H vs Q E hr h => ⟨_, PSs.nox (have hu := hu_of hr; (pss_cons (ps_if (pt_val (pe_md D_Walk_is_over (hr.mono (by first | decide | omega)) pass0 (pe_fld (pv 0) rfl) (pa_cons (pv 1) pa_nil)))
        (pss_one (ps_ret (pe_tup (pa_cons pe_int (pa_cons pe_int pa_nil)))))
        pss_nil)
      (pss_cons (ps_if (pt_cmp (pc_dnotin hu (pe_tup (pa_cons (pv 1) (pa_cons (pv 2) pa_nil))) (pe_fld (pv 0) rfl)) rfl)
        (pss_cons (ps_asg (pe_md D_Narrowed_among (hr.mono (by first | decide | omega)) pass0 (pv 0) (pa_cons (pv 1) (pa_cons (pv 2) pa_nil))) (pg_tup rfl (pgs_cons (pg_name (i := 3) sc_Narrowed_products.nd rfl (.inl rfl)) (pgs_cons (pg_name (i := 4) sc_Narrowed_products.nd rfl (.inl rfl)) pgs_nil))))
        (pss_cons (ps_setLc (i := 5) (own := [("thing", 7)]) rfl sc_Narrowed_products.nd rfl rfl (sw_true rfl rfl rfl (by decide +kernel)) (pi_list (pv 3)) (blkOk_by (own := [("thing", 7)]) (N := n_Narrowed_products) (sc := defScope s_Narrowed_products) (by decide +kernel)) (fun _ _ _ _ _ => (pg_name (i := 7) sc_Narrowed_products.nd rfl (.inl rfl))) (fun _ _ _ _ _ => pts_nil) (fun _ _ _ _ _ => (pe_mdK ih (hr.mono (by first | decide | omega)) pass0 (pv 0) (pa_cons (pe_op op_add (pv 1) pe_int) (pa_cons (pe_fn D_without (hr.mono (by first | decide | omega)) rfl pass0 (pa_cons (pv 2) (pa_cons (pv 7) pa_nil))) pa_nil)))))
        (pss_cons (ps_setLc (i := 5) (own := [("pair", 8)]) rfl sc_Narrowed_products.nd rfl rfl (sw_true rfl rfl rfl (by decide +kernel)) (pi_list (pv 5)) (blkOk_by (own := [("pair", 8)]) (N := n_Narrowed_products) (sc := defScope s_Narrowed_products) (by decide +kernel)) (fun _ _ _ _ _ => (pg_name (i := 8) sc_Narrowed_products.nd rfl (.inl rfl))) (fun _ _ _ _ _ => (pts_one (pt_cmpR op_notN (pv 8) pe_non (nomark _)))) (fun _ _ _ _ _ => (pv 8)))
        (pss_cons (ps_set (i := 6) sc_Narrowed_products.nd rfl (.inl rfl) pe_non)
        (pss_cons (ps_if (pt_cmpR op_gt (pe_callB call_len rfl T.f_len bt_len (pa_cons (pv 5) pa_nil)) pe_int (nomark _))
          (pss_one (ps_set (i := 6) sc_Narrowed_products.nd rfl (.inl rfl) (pe_tup (pa_cons (pe_op op_mulN (pv 4) (pe_callB (cr_min rfl) rfl T.f_min bt_min (pa_cons (pe_lc (own := [("pair", 8)]) rfl sc_Narrowed_products.nd (pi_list (pv 5)) (blkOk_by (own := [("pair", 8)]) (N := n_Narrowed_products) (sc := defScope s_Narrowed_products) (by decide +kernel)) (fun _ _ _ _ _ => (pg_name (i := 8) sc_Narrowed_products.nd rfl (.inl rfl))) (fun _ _ _ _ _ => pts_nil) (fun _ _ _ _ _ => (pe_ix (ix_tupK (K := K)) (pv 8) pe_int (fun _ _ => rfl)))) pa_nil))) (pa_cons (pe_op op_mulN (pv 4) (pe_callB (cr_max rfl) rfl T.f_max bt_max (pa_cons (pe_lc (own := [("pair", 8)]) rfl sc_Narrowed_products.nd (pi_list (pv 5)) (blkOk_by (own := [("pair", 8)]) (N := n_Narrowed_products) (sc := defScope s_Narrowed_products) (by decide +kernel)) (fun _ _ _ _ _ => (pg_name (i := 8) sc_Narrowed_products.nd rfl (.inl rfl))) (fun _ _ _ _ _ => pts_nil) (fun _ _ _ _ _ => (pe_ix (ix_tupK (K := K)) (pv 8) pe_int (fun _ _ => rfl)))) pa_nil))) pa_nil)))))
          pss_nil)
        (pss_one (ps_dput hu (pe_fld (pv 0) rfl) (pe_tup (pa_cons (pv 1) (pa_cons (pv 2) pa_nil))) (pv 6) rfl)))))))
        pss_nil)
      (pss_one (ps_ret (pe_dget hu (pe_fld (pv 0) rfl) (pe_tup (pa_cons (pv 1) (pa_cons (pv 2) pa_nil))) (fun _ _ => rfl))))))), ?_⟩)
  · obtain ⟨_, _, _, _, _, _, _, _, _, _, _, rfl, _⟩ := h; rfl
  · obtain ⟨N, nr, wk, cn, da, kp, kn, rows, t, i, m, rfl, hnar, at6, hd, hc, live, q⟩ := h
    have hn6 := at6.ro.len
    have htl := turn_len at6.tn
    have hle := at6.le
    obtain ⟨dx, fd, h1, h2⟩ := id hnar.ins
    obtain ⟨wx, ta, wa, aa, w1, w2, w3, nw⟩ := id hnar.wlk.ins
    obtain ⟨kv1, kv2, kv3, e1, e2, e3⟩ := hnar.dts
    refine ⟨_, rfl, nr, _, dx, _, _, rfl, h1, T.c_Narrowed, T.n_Narrowed_walk, rfl, wk, wx, _, rfl, w1, rfl, _, rfl, N, wk, cn, da, kp, rows, t, i, rfl, hnar.wlk, decide (i = t.length), rfl, ?_⟩
    by_cases ho : i = t.length
    · rw [decide_eq_true ho]
      refine iteT ⟨sz2, fun tp htp => ?_⟩
      have sn : Same H (upd H tp (.tup [iV 1, iV 1])) := Same.new htp
      refine q _ (.ref tp) 1 1 (Same.three sn _ _ _) (hnar.same sn) ⟨tp, rfl, upd_same⟩ ?_
      unfold rst
      rw [ho, List.drop_length]
      exact ⟨Nat.le_refl _, Nat.le_refl _⟩
    rw [decide_eq_false ho]
    refine iteF ?_
    have hi : i < t.length := by omega
    obtain ⟨d', rfl⟩ : ∃ d', d = d' + 1 := ⟨d - 1, by omega⟩
    have esp := hsp d' rfl
    subst esp
    -- the end: what is known is handed back
    have fin : ∀ {H1 : Hp} {v : V} {kvs : List (List Key × V)}, Sm3 da kp kn H H1 → Nar K N H1 nr wk cn da kp kn rows t → H1 kn = some (.dT kvs) → valV kvs (kk i m) = some v → ∀ kq, H1 kq = none →
        ∃ (d : Addr) (x : V), V.ref kn = .ref d ∧ DGet (upd H1 kq (.tup [iV i, iV m])) d (.ref kq) (some x) ∧ Q x (upd H1 kq (.tup [iV i, iV m])) := fun {H1 v kvs} s hn1 hk hv kq hkq => by
      have sn : Same H1 (upd H1 kq (.tup [iV i, iV m])) := Same.new hkq
      refine ⟨kn, v, rfl, by rw [← hv]; exact DGet.t (sn _ _ hk) (by exact upd_same), ?_⟩
      obtain ⟨kv, f1, f2, f3⟩ := hn1.known
      rw [hk] at f1
      cases f1
      obtain ⟨lo, hi, a, b⟩ := f3 i m v hv
      exact q _ v lo hi (fun b u n1 n2 n3 e => sn _ _ (s b u n1 n2 n3 e)) (hn1.same sn) (a.kd (Same.kd sn)) b
    obtain ⟨kvs, g1, g2, g3⟩ := id hnar.known
    refine ⟨_, rfl, _, rfl, sz2, fun kq hkq => ?_⟩
    have sm : Same H (upd H kq (.tup [iV i, iV m])) := Same.new hkq
    have hk : (upd H kq (.tup [iV i, iV m])) kq = some (.tup ((kk i m).map kV)) := upd_same
    generalize (upd H kq (.tup [iV i, iV m])) = H1 at sm hk
    have hnar1 := hnar.same sm
    refine ⟨_, rfl, nr, _, dx, _, _, rfl, sm _ _ h1, T.c_Narrowed, T.n_Narrowed_known, rfl, kn, _, rfl, DGet.t (sm _ _ g1) hk, ?_⟩
    cases hv : valV kvs (kk i m) with
    | some v =>
      refine ⟨false, rfl, iteF ?_⟩
      refine ⟨_, rfl, nr, _, dx, _, _, rfl, sm _ _ h1, T.c_Narrowed, T.n_Narrowed_known, rfl, _, rfl, _, rfl, sz2, fun kq2 hkq2 => ?_⟩
      exact fin (fun b u _ _ _ e => sm b u e) hnar1 (sm _ _ g1) hv kq2 hkq2
    | none =>
      refine ⟨true, rfl, iteT ?_⟩
      refine ⟨_, rfl, nr, dx, _, rfl, sm _ _ h1, rfl, _, rfl, _, rfl, N, nr, wk, cn, da, kp, kn, rows, t, i, m, rfl, hnar1, at6, hi, live_same sm live, fun H2 y s2 hnar2 hch => ?_⟩
      obtain ⟨y', l, p, r, a1, an, a2, a3, a4, a5⟩ := hch
      cases a1
      refine ⟨y, _, rfl, SqT.of a4, rfl, _, _, rfl, _, _, rfl, rfl, ?_⟩
      have er := rst_at a2 a3
      rw [er] at hc
      generalize hrs : rst rows t (i + 1) = rs at er hc a4 a5
      have hrm := List.mem_of_getElem? a3
      have hrl : r.length ≤ 6 := by
        have := nodup_len (at6.ro.nd r hrm) (k := List.range rows.length) (fun y hy => List.mem_range.mpr (at6.ro.lt r hrm y hy))
        rw [List.length_range] at this
        omega
      have hol : (ops r rs m).length ≤ 6 := by
        have : (ops r rs m).length ≤ r.length := by
          unfold ops
          refine Nat.le_trans (List.length_filter_le _ _) ?_
          rw [List.length_map]
          exact List.length_filter_le _ _
        omega
      have hne := List.length_pos_iff.mpr (ops_nil hc)
      obtain ⟨kvd2, kvp2, kvn2, f1, f2, f3⟩ := hnar2.dts
      have s02 : Sm2 da kp H H2 := fun b u n1 n2 e => s2 b u n1 n2 (sm b u e)
      generalize hes : ops r rs m = es at a4 a5 hol hne
      -- the products behind each open thing
      refine ⟨_, rfl, l, rfl, ⟨_, SqL.of a5⟩, fun D hD => ?_⟩
      have nD : ¬ (D = da ∨ D = kp ∨ D = kn) := fun z => by
        rcases z with rfl | rfl | rfl
        · rw [hD] at f1; cases f1
        · rw [hD] at f2; cases f2
        · rw [hD] at f3; cases f3
      have nN : ¬ N D := fun z => Nar.live hnar2 (s02.three kn) live D z hD
      refine lc_S walk_list hD (fun b => b = da ∨ b = kp ∨ b = kn) (fun j acc H => Nar K (fun a => N a ∨ a = D) H nr wk cn da kp kn rows t ∧ (∀ a, N a → H a ≠ none) ∧ ∃ ps : List (Nat × Nat), Tups H acc (ps.map fun p => [iV p.1, iV p.2]) ∧ Paired (fun p e => Pb rs (m - 2 ^ e.1) p.1 p.2) ps (es.take j)) nD (by
        rw [List.length_map]
        exact small1000 (by omega)) (fun j acc H k _ => SqL.of (k _ _ (fun z => by
          rcases z with rfl | rfl | rfl
          · rw [f1] at a5; cases a5
          · rw [f2] at a5; cases a5
          · rw [f3] at a5; cases a5) a5)) (fun j acc H H' ys hd k r => ?_) ⟨((hnar2.add hD).same (Same.new hD)), live_same (Same.new hD) (Nar.live hnar2 (s02.three kn) live), [], .nil, .nil⟩ ?_ ?_
      · obtain ⟨r1, r2, ps, r3, r4⟩ := r
        refine ⟨r1.lst (.inr rfl) hd k, fun a na z => ?_, ps, r3.kl (SmX.kl k hd), r4⟩
        rcases hq : H a with _ | u
        · exact r2 a na hq
        · rw [k _ _ (fun y => nN (y ▸ na)) hq] at z; cases z
      · rintro j v H3 H' acc Fin Skip hj hla k hacc ⟨hnar3, live3, ps, hps, hpb⟩ ⟨rfl, yy⟩ fin skip
        obtain ⟨⟨x, c⟩, he, rfl⟩ := map_at yy
        have hem : (x, c) ∈ ops r rs m := by rw [hes]; exact List.mem_of_getElem? he
        obtain ⟨hxo, hcx, hc0⟩ := mem_ops.mp hem
        obtain ⟨hxr, hxb⟩ := mem_opn.mp hxo
        have hx6 : x < 6 := Nat.lt_of_lt_of_le (at6.ro.lt r hrm x hxr) hn6
        have lx := clr_le hxb
        obtain ⟨kz1, kz2, kz3, z1, z2, z3⟩ := hnar3.dts
        obtain ⟨dx3, fd3, i1, i2⟩ := hnar3.ins
        refine ⟨rfl, _, rfl, nr, dx3, _, rfl, i1, rfl, _, rfl, _, _, rfl, rfl, _, rfl, _, rfl, m, x, rfl, by omega, lx, ?_⟩
        refine ⟨fun a => N a ∨ a = D, nr, wk, cn, da, kp, kn, rows, t, i + 1, m - 2 ^ x, rfl, hnar3, at6.next hi hx6 hxb, by omega, by rw [hrs, ← hcx]; exact hc0, ?_, fun H4 v4 lo up s4 hnar4 hfr hp4 => ?_⟩
        · intro a na
          rcases na with na | na
          · exact live3 a na
          · rw [na, hacc]; exact fun z => nomatch z
        · have kd4 := s4.kd z1 z2 z3
          obtain ⟨pa, rfl, hpa⟩ := hfr
          refine fin _ _ (fun b u nb e => s4 b u (fun z => nb (.inl z)) (fun z => nb (.inr (.inl z))) (fun z => nb (.inr (.inr z))) e) ⟨hnar4, hnar4.live s4 live3, ps ++ [(lo, up)], ?_, ?_⟩
          · rw [List.map_append]
            exact Tups.snoc (hps.kd kd4) hpa
          · rw [take_snoc he]
            rw [hrs] at hp4
            exact Paired.snoc hpb hp4
      · rintro H3 acc k hla hacc ⟨hnar3, live3, ps, hps, hpb⟩
        rw [List.length_map, List.take_length] at hpb
        have hpl : ps.length = es.length := Paired.length hpb
        have hal : acc.length = es.length := by rw [Paired.length hps, List.length_map, hpl]
        refine ⟨_, rfl, D, rfl, ⟨_, SqL.of hacc⟩, fun D2 hD2 => ?_⟩
        refine lc_same walk_list hD2 (fun j acc2 _ => acc2 = acc.take j) (small1000 (by omega)) (fun H' k => SqL.of (k _ _ hacc)) (fun _ _ _ _ _ _ _ h => h) rfl ?_ ?_
        · rintro j v H4 H' acc2 Fin Skip hj hla2 k2 rr ⟨rfl, yy⟩ fin skip
          obtain ⟨e2, he2, b, rfl, hb⟩ := paired_get hps yy
          refine ⟨rfl, _, rfl, rfl, true, congrArg V.bl (by rw [decide_eq_false (fun z => nomatch z)]; rfl), iteT ⟨_, rfl, fin _ _ (Same.refl _) ?_⟩⟩
          rw [rr, take_snoc yy]
        · intro H4 acc2 k2 hla2 hacc2 rr
          rw [List.take_length] at rr
          subst rr
          have hps4 := hps.same k2
          have hnar4 := (hnar3.sub (fun _ z => .inl z)).same k2
          refine ⟨_, rfl, _, _, rfl, .inl ⟨_, SqL.of hacc2, rfl⟩, _, _, rfl, rfl, true, congrArg V.bl (decide_eq_true (by omega)), iteT ?_⟩
          refine ⟨_, rfl, _, rfl, D2, rfl, ⟨_, SqL.of hacc2⟩, fun D3 hD3 => ?_⟩
          refine lc_same walk_list hD3 (fun j acc2 _ => acc2 = (ps.take j).map fun p => iV p.1) (small1000 (by omega)) (fun H' k => SqL.of (k _ _ hacc2)) (fun _ _ _ _ _ _ _ h => h) rfl ?_ ?_
          · rintro j v H5 H' acc3 Fin Skip hj hla3 k3 rr ⟨rfl, yy⟩ fin skip
            obtain ⟨e2, he2, b, rfl, hb⟩ := paired_get hps4 yy
            obtain ⟨e, he, rfl⟩ := map_at he2
            refine ⟨rfl, _, rfl, b, _, _, _, rfl, rfl, SqT.of (k3 _ _ hb), rfl, fin _ _ (Same.refl _) ?_⟩
            rw [rr, take_snoc he, List.map_append]; rfl
          intro H5 acc3 k3 hla3 hacc3 rr3
          rw [hal, ← hpl, List.take_length] at rr3
          refine ⟨D3, ps.map fun p => ((p.1 : Nat) : Int), rfl, SqL.of (by rw [hacc3, rr3, List.map_map]; rfl), by rw [List.length_map]; omega, fun mn hmn hmin => ?_⟩
          obtain ⟨p0, hp0, rfl⟩ := List.mem_map.mp hmn
          refine ⟨es.length, p0.1, rfl, rfl, by omega, ?_⟩
          refine ⟨_, rfl, _, rfl, D2, rfl, ⟨_, SqL.of (k3 _ _ hacc2)⟩, fun D4 hD4 => ?_⟩
          refine lc_same walk_list hD4 (fun j acc2 _ => acc2 = (ps.take j).map fun p => iV p.2) (small1000 (by omega)) (fun H' k => SqL.of (k _ _ (k3 _ _ hacc2))) (fun _ _ _ _ _ _ _ h => h) rfl ?_ ?_
          · rintro j v H6 H' acc4 Fin Skip hj hla4 k4 rr ⟨rfl, yy⟩ fin skip
            obtain ⟨e2, he2, b, rfl, hb⟩ := paired_get hps4 yy
            obtain ⟨e, he, rfl⟩ := map_at he2
            refine ⟨rfl, _, rfl, b, _, _, _, rfl, rfl, SqT.of (k4 _ _ (k3 _ _ hb)), rfl, fin _ _ (Same.refl _) ?_⟩
            rw [rr, take_snoc he, List.map_append]; rfl
          intro H6 acc4 k4 hla4 hacc4 rr4
          rw [hal, ← hpl, List.take_length] at rr4
          refine ⟨D4, ps.map fun p => ((p.2 : Nat) : Int), rfl, SqL.of (by rw [hacc4, rr4, List.map_map]; rfl), by rw [List.length_map]; omega, fun mx hmx hmax => ?_⟩
          obtain ⟨p1, hp1, rfl⟩ := List.mem_map.mp hmx
          refine ⟨es.length, p1.2, rfl, rfl, by omega, sz2, fun tp htp => ?_⟩
          have s36 : Same H3 (upd H6 tp (.tup [iV (es.length * p0.1), iV (es.length * p1.2)])) := Same.trans k2 (Same.trans k3 (Same.trans k4 (Same.new htp)))
          have htp' : (upd H6 tp (.tup [iV (es.length * p0.1), iV (es.length * p1.2)])) tp = some (.tup [iV (es.length * p0.1), iV (es.length * p1.2)]) := upd_same
          generalize (upd H6 tp (.tup [iV (es.length * p0.1), iV (es.length * p1.2)])) = H7 at s36 htp' ⊢
          have hnar7 := (hnar3.sub (fun _ z => .inl z)).same s36
          obtain ⟨dx7, fd7, i1, i2⟩ := hnar7.ins
          obtain ⟨kvs7, j1, j2, j3⟩ := hnar7.known
          have hpb7 : Pb (rst rows t i) m (es.length * p0.1) (es.length * p1.2) := by
            rw [er]
            intro e he
            rw [hes] at he ⊢
            obtain ⟨j, hj⟩ := List.mem_iff_getElem?.mp he
            obtain ⟨pe, hpe, hb⟩ := Paired.at hpb hj
            have hpm := List.mem_of_getElem? hpe
            refine ⟨pe.1, pe.2, hb, Nat.mul_le_mul_left _ ?_, Nat.mul_le_mul_left _ ?_⟩
            · exact Int.ofNat_le.mp (hmin _ (List.mem_map.mpr ⟨pe, hpm, rfl⟩))
            · exact Int.ofNat_le.mp (hmax _ (List.mem_map.mpr ⟨pe, hpm, rfl⟩))
          refine ⟨_, rfl, _, rfl, nr, _, dx7, _, _, rfl, i1, T.c_Narrowed, T.n_Narrowed_known, rfl, _, rfl, _, rfl, sz2, fun kq2 hkq2 => ?_⟩
          have s8 : Same H7 (upd H7 kq2 (.tup [iV i, iV m])) := Same.new hkq2
          have hk8 : (upd H7 kq2 (.tup [iV i, iV m])) kq2 = some (.tup ((kk i m).map kV)) := upd_same
          generalize (upd H7 kq2 (.tup [iV i, iV m])) = H8 at s8 hk8
          have hlen := j2.len
          rw [kSet_len] at hlen
          refine ⟨kn, _, rfl, DPut.t (s8 _ _ j1) hk8 (by rw [sizeLine_eq]; omega), ?_⟩
          have hnar9 := (hnar7.same s8).put (s8 _ _ j1) (v := .ref tp) (by omega) at6.hm ⟨tp, rfl, s8 _ _ htp'⟩ hpb7
          obtain ⟨dx9, fd9, b1, b2⟩ := hnar9.ins
          refine ⟨_, rfl, nr, _, dx9, _, _, rfl, b1, T.c_Narrowed, T.n_Narrowed_known, rfl, _, rfl, _, rfl, sz2, fun kq3 hkq3 => ?_⟩
          refine fin (fun b u n1 n2 n3 e => ?_) hnar9 upd_same (by rw [valV_put, if_pos rfl]) kq3 hkq3
          rw [upd_ne n3]
          exact s8 _ _ (s36 _ _ (k _ _ (fun z => z.elim n1 (fun z => z.elim n2 n3)) (s02 _ _ n1 n2 e)))
end
theorem D_Narrowed_products {K : PySem.W.Frag} {mg : Str → Option Value} (T : Hd K mg) : ∀ (d : Nat) {P : Program} {w : World} {base : Heap}, Md P w K mg base CX0 (2 * d + 22) "Narrowed" "products" (spProd K d)
  | 0, P, w, base => by
    obtain ⟨fd, F⟩ := T.d_Narrowed_products
    refine D_Narrowed_products_step T 0 (fun _ _ _ _ => False) ?_ (fun d' e => by omega)
    intro P w base
    exact ⟨T.c_Narrowed, T.m_Narrowed_products, fd, ["self", "place", "things"], ⟨fun _ _ _ _ h => h.elim, fun _ _ _ _ _ _ _ _ _ _ _ _ _ h => h.elim⟩, FunD.bindsN F fun _ _ _ _ _ _ us hl => match us, hl with | [_, _, _], _ => rfl⟩
  | d + 1, P, w, base => D_Narrowed_products_step T (d + 1) (spProd K d) (D_Narrowed_products T d) (fun d' e => by cases e; rfl)
end Fo
end
section
set_option Elab.async false
set_option linter.all false
set_option maxRecDepth 100000
set_option maxHeartbeats 8000000
set_option pp.maxSteps 900
namespace Fo
open PySem PySem.Spec PyProof.Rows L2 LamX NdefX
def none_N : Addr → Prop := fun _ => False
theorem rst_zero (rows : List (List Nat)) (t : List Nat) : rst rows t 0 = t.map (rowOf rows) := by unfold rst; rw [List.drop_zero]
theorem turn_perm {rows : List (List Nat)} {t : List Nat} (ht : IsTurn rows.length t) : (t.map (rowOf rows)).Perm rows := by
  have := List.Perm.map (rowOf rows) ht
  rwa [map_rowOf] at this
theorem at6_start {rows : List (List Nat)} {t : List Nat} (ro : RowsOk rows) (ht : IsTurn rows.length t) : At6 rows t 0 (whole rows.length) := by
  have := pow_le6 ro.len
  have := Nat.two_pow_pos rows.length
  exact ⟨ro, ht, by unfold whole; omega, Nat.zero_le _, by rw [bitsOf_whole ro.len, List.length_range, turn_len ht]; rfl⟩
def spExtremes (K : PySem.W.Frag) : Sp := fun vs H Q _ => ∃ (wk fd cn da kp : Addr) (rows : List (List Nat)) (t : List Nat), vs = [.ref wk, .ref fd] ∧ H fd = some (.dK []) ∧ Wlk K (fun _ => False) H wk cn da kp rows t ∧ RowsOk rows ∧ IsTurn rows.length t ∧ 0 < cnt (t.map (rowOf rows)) (whole rows.length) ∧
  ∀ H' v lo hi, Sm2 da kp H H' → Fr H' v lo hi → Pb (t.map (rowOf rows)) (whole rows.length) lo hi → Q v H'
def spCheckWalk (K : PySem.W.Frag) : Sp := fun vs H Q _ => ∃ (tb ta : Addr) (rows : List (List Nat)) (t : List Nat), vs = [.ref tb, .ref ta, .str "ahead"] ∧ Tab K H tb rows ∧ rows.length ≤ 6 ∧ IsTurn rows.length t ∧ H ta = some (.tup (t.map iV)) ∧
  ∀ H' wk cn da kp, Same H H' → H da = none → H kp = none → Wlk K (fun _ => False) H' wk cn da kp rows t → Q (.ref wk) H'
def spStuckWalk (K : PySem.W.Frag) : Sp := fun vs H Q _ => ∃ (tb ta : Addr) (rows : List (List Nat)) (t : List Nat), vs = [.ref tb, .ref ta, .str "ahead"] ∧ Tab K H tb rows ∧ rows.length ≤ 6 ∧ Sml rows ∧ Deal rows ∧ IsTurn rows.length t ∧ H ta = some (.tup (t.map iV)) ∧
  ∀ H' wk cn da kp, Same H H' → H da = none → H kp = none → Wlk K (fun _ => False) H' wk cn da kp rows t → Q (.ref wk) H'
def spIsEven (K : PySem.W.Frag) : Sp := fun vs H Q _ => ∃ (tb ta : Addr) (rows : List (List Nat)) (t : List Nat), vs = [.ref tb, .ref ta, .str "ahead"] ∧ Tab K H tb rows ∧ RowsOk rows ∧ Sml rows ∧ 0 < cnt rows (whole rows.length) ∧ IsTurn rows.length t ∧ H ta = some (.tup (t.map iV)) ∧
  ∀ H' b, Same H H' → (b = true → ∃ p, Pr (t.map (rowOf rows)) (whole rows.length) p) → Q (.bl b) H'
section
variable {P : Program} {w : World} {K : PySem.W.Frag} {mg : Str → Option Value} {base : Heap}
theorem D_extremes (T : Hd K mg) : Fn P w K mg base CX0 35 "extremes" (spExtremes K) := by
  have D_Narrowed_init := fun {P w base} => D_Narrowed_init (P := P) (w := w) (base := base) T
  have D_Walk_begin := fun {P w base} => D_Walk_begin (P := P) (w := w) (base := base) T
  have p6 := fun {P w base} => D_Narrowed_products T 6 (P := P) (w := w) (base := base)
  obtain ⟨fd, F⟩ := T.d_extremes
  refine ⟨T.g_extremes, T.p_extremes, fd, ["walk", "forced"], ?_, FunD.bindsN F fun _ _ _ _ _ _ us hl => match us, hl with | [_, _], _ => rfl⟩
  refine F.ok sc_extremes (fun vs H Q E h => ?_) (fun cdv A outer s H vs Q E hr h => ⟨_, PSs.nox (pss_one (ps_ret (pe_mdK p6 (hr.mono (by first | decide | omega)) pass0 (pe_mkc D_Narrowed_init (hr.mono (by first | decide | omega)) rfl pass0 (pa_cons (pv 0) (pa_cons (pv 1) pa_nil))) (pa_cons pe_int (pa_cons (pe_md0 D_Walk_begin (hr.mono (by first | decide | omega)) pass0 (pv 0)) pa_nil))))), ?_⟩)
  · obtain ⟨_, _, _, _, _, _, _, rfl, _⟩ := h; rfl
  · obtain ⟨wk, fd, cn, da, kp, rows, t, rfl, hfd, hw, ro, tn, hc, q⟩ := h
    refine ⟨_, rfl, _, rfl, fun nr dx hnr hdx hne => ?_⟩
    have s0 : ∀ o1 o2 : HO, Same H (upd (upd H dx o1) nr o2) := fun o1 o2 b u e => by rw [upd_ne (ne_of_none e hnr), upd_ne (ne_of_none e hdx)]; exact e
    refine ⟨fun _ => False, nr, dx, wk, fd, cn, da, kp, rows, t, rfl, upd_same, s0 _ _ _ _ hfd, hw.same (s0 _ _), fun H1 kn hkn sx hnar => ⟨rfl, ?_⟩⟩
    have s1 := made_same hnr hdx sx
    obtain ⟨ex, fd', i1, i2⟩ := hnar.ins
    obtain ⟨wx, ta, wa, aa, w1, w2⟩ := hnar.wlk.ins
    refine ⟨nr, ex, _, rfl, i1, rfl, _, rfl, wk, wx, _, rfl, w1, rfl, ?_⟩
    refine ⟨fun _ => False, wk, cn, da, kp, rows, t, rfl, hnar.wlk, ?_⟩
    refine ⟨fun _ => False, nr, wk, cn, da, kp, kn, rows, t, 0, whole rows.length, rfl, hnar, at6_start ro tn, by rw [turn_len tn]; have := ro.len; omega, by rw [rst_zero]; exact hc, fun a z => z.elim, fun H2 v lo hi s2 _ hf hp => ?_⟩
    rw [rst_zero] at hp
    have hkn0 : H kn = none := by
      rcases hq : H kn with _ | u
      · rfl
      · rw [s0 _ _ _ _ hq] at hkn; cases hkn
    exact q H2 v lo hi (fun b u n1 n2 e => s2 b u n1 n2 (ne_of_none e hkn0) (s1 _ _ e)) hf hp
theorem D_check_walk (T : Hd K mg) (TX : Hx K mg) (TY : Hy K) : Fn P w K mg base CX0 6 "check_walk" (spCheckWalk K) := by
  have D_check_turn := fun {P w base} => D_check_turn (P := P) (w := w) (base := base) T TX
  have D_check_custom := fun {P w base} => D_check_custom (P := P) (w := w) (base := base) T TY
  have D_Walk_init := fun {P w base} => D_Walk_init (P := P) (w := w) (base := base) T
  obtain ⟨fd, F⟩ := T.d_check_walk
  refine ⟨T.g_check_walk, T.p_check_walk, fd, ["table", "turn", "custom"], ?_, FunD.bindsN F fun _ _ _ _ _ _ us hl => match us, hl with | [_, _, _], _ => rfl⟩
  refine F.ok sc_check_walk (fun vs H Q E h => ?_) (fun cdv A outer s H vs Q E hr h => ⟨_, PSs.nox (pss_cons (ps_expr (pe_fn D_check_turn (hr.mono (by first | decide | omega)) rfl passN (pa_cons (pv 0) (pa_cons (pv 1) pa_nil))))
      (pss_cons (ps_expr (pe_fn D_check_custom (hr.mono (by first | decide | omega)) rfl pass0 (pa_cons (pv 2) pa_nil)))
      (pss_one (ps_ret (pe_mkc D_Walk_init (hr.mono (by first | decide | omega)) rfl pass0 (pa_cons (pv 0) (pa_cons (pv 1) (pa_cons (pv 2) pa_nil)))))))), ?_⟩)
  · obtain ⟨_, _, _, _, rfl, _⟩ := h; rfl
  · obtain ⟨tb, ta, rows, t, rfl, htb, hn6, tn, hta, q⟩ := h
    refine ⟨_, rfl, _, rfl, tb, rows, _, rfl, htb, by omega, .inl ⟨t, ⟨ta, rfl, hta, tn⟩, fun H1 s1 => ?_⟩⟩
    refine ⟨_, rfl, rfl, ?_⟩
    refine ⟨_, rfl, _, rfl, _, rfl, fun wk dx hwk hdx hne => ?_⟩
    have s2 : ∀ o1 o2 : HO, Same H1 (upd (upd H1 dx o1) wk o2) := fun o1 o2 b u e => by rw [upd_ne (ne_of_none e hwk), upd_ne (ne_of_none e hdx)]; exact e
    refine ⟨wk, dx, tb, ta, rows, t, rfl, upd_same, (htb.same s1).same (s2 _ _), hn6, tn, s2 _ _ _ _ (s1 _ _ hta), fun H2 cn da kp hcn hda hkp sx hw => ⟨rfl, ?_⟩⟩
    have s3 := Same.trans s1 (made_same hwk hdx sx)
    have non : ∀ {o1 o2 : HO} {a : Addr}, (upd (upd H1 dx o1) wk o2) a = none → H a = none := fun {o1 o2 a} z => by
      rcases hq : H a with _ | u
      · rfl
      · rw [s2 _ _ _ _ (s1 _ _ hq)] at z; cases z
    exact q H2 wk cn da kp s3 (non hda) (non hkp) hw
theorem D_stuck_walk (T : Hd K mg) (TX : Hx K mg) (TY : Hy K) : Fn P w K mg base CX0 7 "stuck_walk" (spStuckWalk K) := by
  have D_check_stuck := fun {P w base} => D_check_stuck (P := P) (w := w) (base := base) T TX
  have D_check_walk := fun {P w base} => D_check_walk (P := P) (w := w) (base := base) T TX TY
  obtain ⟨fd, F⟩ := T.d_stuck_walk
  refine ⟨T.g_stuck_walk, T.p_stuck_walk, fd, ["table", "turn", "custom"], ?_, FunD.bindsN F fun _ _ _ _ _ _ us hl => match us, hl with | [_, _, _], _ => rfl⟩
  refine F.ok sc_stuck_walk (fun vs H Q E h => ?_) (fun cdv A outer s H vs Q E hr h => ⟨_, PSs.nox (pss_cons (ps_set (i := 3) sc_stuck_walk.nd rfl (.inl rfl) (pe_fn D_check_walk (hr.mono (by first | decide | omega)) rfl pass0 (pa_cons (pv 0) (pa_cons (pv 1) (pa_cons (pv 2) pa_nil)))))
      (pss_cons (ps_expr (pe_fn D_check_stuck (hr.mono (by first | decide | omega)) rfl passN (pa_cons (pv 0) pa_nil)))
      (pss_one (ps_ret (pv 3))))), ?_⟩)
  · obtain ⟨_, _, _, _, rfl, _⟩ := h; rfl
  · obtain ⟨tb, ta, rows, t, rfl, htb, hn6, hsm, hde, tn, hta, q⟩ := h
    refine ⟨_, rfl, _, rfl, _, rfl, tb, ta, rows, t, rfl, htb, hn6, tn, hta, fun H1 wk cn da kp s1 hda hkp hw => ?_⟩
    refine ⟨_, rfl, tb, rows, rfl, htb.same s1, hsm, fun H2 s2 _ => ?_, fun H2 s2 z => absurd hde z⟩
    exact ⟨_, rfl, q H2 wk cn da kp (Same.trans s1 s2) hda hkp (hw.same s2)⟩
theorem D_is_even (T : Hd K mg) (TX : Hx K mg) (TY : Hy K) : Fn P w K mg base CX0 36 "is_even" (spIsEven K) := by
  have D_extremes := fun {P w base} => D_extremes (P := P) (w := w) (base := base) T
  have D_stuck_walk := fun {P w base} => D_stuck_walk (P := P) (w := w) (base := base) T TX TY
  obtain ⟨fd, F⟩ := T.d_is_even
  refine ⟨T.g_is_even, T.p_is_even, fd, ["table", "turn", "custom"], ?_, FunD.bindsN F fun _ _ _ _ _ _ us hl => match us, hl with | [_, _, _], _ => rfl⟩
  refine F.ok sc_is_even (fun vs H Q E h => ?_) (fun cdv A outer s H vs Q E hr h => ⟨_, PSs.nox (pss_cons (ps_asg (pe_fn D_extremes (hr.mono (by first | decide | omega)) rfl pass0 (pa_cons (pe_fn D_stuck_walk (hr.mono (by first | decide | omega)) rfl pass0 (pa_cons (pv 0) (pa_cons (pv 1) (pa_cons (pv 2) pa_nil)))) (pa_cons pe_dnewK pa_nil))) (pg_tup rfl (pgs_cons (pg_name (i := 3) sc_is_even.nd rfl (.inl rfl)) (pgs_cons (pg_name (i := 4) sc_is_even.nd rfl (.inl rfl)) pgs_nil))))
      (pss_one (ps_ret (pe_cmpR op_eq (pv 3) (pv 4) (nomark _))))), ?_⟩)
  · obtain ⟨_, _, _, _, rfl, _⟩ := h; rfl
  · obtain ⟨tb, ta, rows, t, rfl, htb, ro, hsm, hc, tn, hta, q⟩ := h
    have hde : Deal rows := (deal_cnt ro.lt).mpr hc
    have hc' : 0 < cnt (t.map (rowOf rows)) (whole rows.length) := by rw [cnt_perm (turn_perm tn)]; exact hc
    refine ⟨_, rfl, _, rfl, _, rfl, tb, ta, rows, t, rfl, htb, ro.len, hsm, hde, tn, hta, fun H1 wk cn da kp s1 hda hkp hw => ?_⟩
    intro fd hfd
    have s2 : Same H1 (upd H1 fd (.dK [])) := Same.new hfd
    refine ⟨wk, fd, cn, da, kp, rows, t, rfl, upd_same, hw.same s2, ro, tn, hc', fun H3 v lo hi s3 hf hp => ?_⟩
    obtain ⟨p, rfl, hpt⟩ := hf
    refine ⟨p, _, rfl, SqT.of hpt, rfl, _, _, rfl, _, _, rfl, rfl, ?_⟩
    refine ⟨_, rfl, _, rfl, rfl, ?_⟩
    refine q H3 _ (fun b u e => s3 _ _ (ne_of_none e hda) (ne_of_none e hkp) (s2 _ _ (s1 _ _ e))) fun z => ?_
    have z := of_decide_eq_true z
    injection z with z
    have z := Int.ofNat.inj z
    subst z
    exact ⟨lo, hp.pr hc'⟩
end
end Fo
end
section
set_option Elab.async false
set_option linter.all false
/-! Tables that have a dealing: numbered anew, ordered anew, with a tie more. -/
namespace Fo
section
variable {n : Nat} {pl : List Nat}
theorem pm_len (h : pl.Perm (List.range n)) : pl.length = n := by rw [h.length_eq, List.length_range]
theorem pm_nd (h : pl.Perm (List.range n)) : pl.Nodup := h.nodup_iff.mpr List.nodup_range
theorem pm_get (h : pl.Perm (List.range n)) {x : Nat} (hx : x < n) : pl[x]? = some (pl.getD x 0) := by
  rw [List.getD_eq_getElem?_getD, List.getElem?_eq_getElem (by rw [pm_len h]; exact hx)]
  rfl
theorem pm_lt (h : pl.Perm (List.range n)) {x : Nat} (hx : x < n) : pl.getD x 0 < n := List.mem_range.mp (h.mem_iff.mp (List.mem_of_getElem? (pm_get h hx)))
theorem pm_inj (h : pl.Perm (List.range n)) {x y : Nat} (hx : x < n) (hy : y < n) (e : pl.getD x 0 = pl.getD y 0) : x = y := by
  obtain ⟨g1, e1⟩ := List.getElem?_eq_some_iff.mp (pm_get h hx)
  obtain ⟨g2, e2⟩ := List.getElem?_eq_some_iff.mp (pm_get h hy)
  exact (List.getElem_inj (pm_nd h)).mp (e1.trans (e.trans e2.symm))
theorem pm_mem (h : pl.Perm (List.range n)) {x : Nat} (hx : x ∈ pl) : x < n := List.mem_range.mp (h.mem_iff.mp hx)
end
theorem nd_getD {d : List Nat} (h : d.Nodup) {i j : Nat} (hi : i < d.length) (hj : j < d.length) (e : d.getD i 0 = d.getD j 0) : i = j := by
  rw [List.getD_eq_getElem?_getD, List.getD_eq_getElem?_getD, List.getElem?_eq_getElem hi, List.getElem?_eq_getElem hj] at e
  exact (List.getElem_inj h).mp e
theorem get_getD {d : List Nat} {i : Nat} (hi : i < d.length) : d[i]? = some (d.getD i 0) := by
  rw [List.getD_eq_getElem?_getD, List.getElem?_eq_getElem hi]
  rfl
/-- n rows of numbers below n, that have a dealing -/
structure Good (rs : List (List Nat)) (n : Nat) : Prop where
  len : rs.length = n
  row : ∀ r ∈ rs, Asc r ∧ ∀ x ∈ r, x < n
  deal : Deal rs
/-- the things numbered by pl, the rows taken by od -/
theorem Good.ren {rs rs' : List (List Nat)} {n : Nat} {pl od : List Nat} (g : Good rs n) (hp : pl.Perm (List.range n)) (ho : od.Perm (List.range n)) (hl : rs'.length = n)
    (h : ∀ (j k : Nat) (r' : List Nat), od[j]? = some k → rs'[j]? = some r' → Asc r' ∧ r'.Perm ((rowOf rs k).map fun x => pl.getD x 0)) : Good rs' n := by
  obtain ⟨d, dl, dn, dm⟩ := g.deal
  have hrow : ∀ k, k < n → rs[k]? = some (rowOf rs k) := fun k hk => by
    unfold rowOf
    rw [List.getD_eq_getElem?_getD, List.getElem?_eq_getElem (by rw [g.len]; exact hk)]
    rfl
  have hdl : d.length = n := by rw [dl, g.len]
  have hdk : ∀ k, k < n → d.getD k 0 ∈ rowOf rs k := fun k hk => dm k _ _ (hrow k hk) (get_getD (by omega))
  have hdn : ∀ k, k < n → d.getD k 0 < n := fun k hk => (g.row _ (List.mem_of_getElem? (hrow k hk))).2 _ (hdk k hk)
  refine ⟨hl, fun r' hr' => ?_, od.map fun k => pl.getD (d.getD k 0) 0, by rw [List.length_map, pm_len ho, hl], ?_, fun i r' x hr' hx => ?_⟩
  · obtain ⟨j, hj⟩ := List.mem_iff_getElem?.mp hr'
    have hjn : j < n := by have := (List.getElem?_eq_some_iff.mp hj).1; omega
    have hk := pm_get ho hjn
    have hkn := pm_lt ho hjn
    obtain ⟨ha, hpm⟩ := h j _ r' hk hj
    refine ⟨ha, fun x hx => ?_⟩
    obtain ⟨y, hy, rfl⟩ := List.mem_map.mp (hpm.mem_iff.mp hx)
    exact pm_lt hp ((g.row _ (List.mem_of_getElem? (hrow _ hkn))).2 y hy)
  · refine List.pairwise_map.mpr (List.Pairwise.imp_of_mem ?_ (pm_nd ho))
    intro a b ha hb hab z
    have la := pm_mem ho ha
    have lb := pm_mem ho hb
    exact hab (nd_getD dn (by omega) (by omega) (pm_inj hp (hdn a la) (hdn b lb) z))
  · have hin : i < n := by have := (List.getElem?_eq_some_iff.mp hr').1; omega
    have hk := pm_get ho hin
    have hkn := pm_lt ho hin
    rw [List.getElem?_map, hk] at hx
    cases hx
    exact ((h i _ r' hk hr').2.mem_iff).mpr (List.mem_map.mpr ⟨_, hdk _ hkn, rfl⟩)
/-- a row with more -/
theorem Good.tie {rs : List (List Nat)} {n a : Nat} {r' : List Nat} (g : Good rs n) (ha : Asc r') (hx : ∀ x ∈ r', x < n) (hs : ∀ x ∈ rowOf rs a, x ∈ r') : Good (rs.set a r') n := by
  obtain ⟨d, dl, dn, dm⟩ := g.deal
  refine ⟨by rw [List.length_set]; exact g.len, fun r hr => ?_, d, by rw [List.length_set]; exact dl, dn, fun i r x hr he => ?_⟩
  · rcases List.mem_or_eq_of_mem_set hr with hr | rfl
    · exact g.row r hr
    · exact ⟨ha, hx⟩
  · by_cases e : a = i
    · subst e
      have hlt : a < rs.length := by have := (List.getElem?_eq_some_iff.mp hr).1; rwa [List.length_set] at this
      rw [List.getElem?_set_self hlt] at hr
      cases hr
      refine hs x (dm a _ x ?_ he)
      unfold rowOf
      rw [List.getD_eq_getElem?_getD, List.getElem?_eq_getElem hlt]
      rfl
    · rw [List.getElem?_set_ne e] at hr
      exact dm i r x hr he
/-- each row holds what d gives it -/
theorem good_of {rs : List (List Nat)} {n : Nat} {d : List Nat} (hl : rs.length = n) (hd : d.Perm (List.range n)) (h : ∀ (i : Nat) (r : List Nat), rs[i]? = some r → d.getD i 0 ∈ r ∧ Asc r ∧ ∀ x ∈ r, x < n) : Good rs n := by
  refine ⟨hl, fun r hr => ?_, d, by rw [pm_len hd, hl], pm_nd hd, fun i r x hr hx => ?_⟩
  · obtain ⟨j, hj⟩ := List.mem_iff_getElem?.mp hr
    exact (h j r hj).2
  · have hin : i < n := by have := (List.getElem?_eq_some_iff.mp hr).1; omega
    rw [pm_get hd hin] at hx
    cases hx
    exact (h i r hr).1
theorem range_getD {n i : Nat} (h : i < n) : (List.range n).getD i 0 = i := by
  rw [List.getD_eq_getElem?_getD, List.getElem?_range h]
  rfl
/-- rows that hold their own place -/
def Own (rs : List (List Nat)) (n : Nat) : Prop := ∀ (i : Nat) (r : List Nat), rs[i]? = some r → i ∈ r ∧ Asc r ∧ ∀ x ∈ r, x < n
theorem Own.good {rs : List (List Nat)} {n : Nat} (h : Own rs n) (hl : rs.length = n) : Good rs n :=
  good_of hl (d := List.range n) (.refl _) fun i r hr => by
    have hin : i < n := by have := (List.getElem?_eq_some_iff.mp hr).1; omega
    rw [range_getD hin]
    exact h i r hr
/-- all but the own place -/
theorem names_good {n : Nat} (h : 1 < n) : Good ((List.range n).map fun p => (List.range n).filter fun x => decide (x ≠ p)) n := by
  have hn : 0 < n := by omega
  refine good_of (d := (List.range n).map fun k => (k + 1) % n) (by rw [List.length_map, List.length_range]) ?_ fun i r hr => ?_
  · refine (List.perm_ext_iff_of_nodup ?_ List.nodup_range).mpr fun x => ?_
    · refine List.pairwise_map.mpr (List.Pairwise.imp_of_mem ?_ List.nodup_range)
      intro a b ha hb hab z
      have la := List.mem_range.mp ha
      have lb := List.mem_range.mp hb
      have key : ∀ k, k < n → (k + 1) % n = if k + 1 = n then 0 else k + 1 := fun k hk => by
        split
        · rename_i e; rw [e, Nat.mod_self]
        · exact Nat.mod_eq_of_lt (by omega)
      rw [key a la, key b lb] at z
      split at z <;> split at z <;> omega
    · rw [List.mem_range, List.mem_map]
      constructor
      · rintro ⟨k, _, rfl⟩
        exact Nat.mod_lt _ hn
      · intro hx
        rcases Nat.eq_zero_or_pos x with rfl | hx0
        · exact ⟨n - 1, List.mem_range.mpr (by omega), by rw [Nat.sub_add_cancel (by omega), Nat.mod_self]⟩
        · exact ⟨x - 1, List.mem_range.mpr (by omega), by rw [Nat.sub_add_cancel hx0]; exact Nat.mod_eq_of_lt hx⟩
  · have hin : i < n := by have := (List.getElem?_eq_some_iff.mp hr).1; rwa [List.length_map, List.length_range] at this
    rw [List.getElem?_map, List.getElem?_range hin] at hr
    cases hr
    have e : ((List.range n).map fun k => (k + 1) % n).getD i 0 = (i + 1) % n := by
      rw [List.getD_eq_getElem?_getD, List.getElem?_map, List.getElem?_range hin]
      rfl
    rw [e]
    refine ⟨List.mem_filter.mpr ⟨List.mem_range.mpr (Nat.mod_lt _ hn), decide_eq_true ?_⟩, ?_, fun x hx => List.mem_range.mp (List.mem_filter.mp hx).1⟩
    · by_cases z : i + 1 = n
      · rw [z, Nat.mod_self]; omega
      · rw [Nat.mod_eq_of_lt (by omega)]; omega
    · exact List.Pairwise.filter _ List.pairwise_lt_range
end Fo
end
section
set_option Elab.async false
set_option linter.all false
set_option maxRecDepth 100000
set_option maxHeartbeats 8000000
set_option pp.maxSteps 900
namespace Fo
open PySem PySem.Spec PyProof.Rows L2 LamX NdefX
/-- a list of lists of numbers, each at an address that ok tells -/
def Lsts (ok : Addr → Prop) (H : Hp) (vs : List V) (rs : List (List Nat)) : Prop := Paired (fun v r => ∃ b, v = .ref b ∧ ok b ∧ H b = some (.lst (r.map iV))) vs rs
theorem Lsts.keep {ok ok' : Addr → Prop} {H H' : Hp} {vs : List V} {rs : List (List Nat)} (h : Lsts ok H vs rs) (k : ∀ b xs, ok b → H b = some (.lst xs) → H' b = some (.lst xs)) (o : ∀ b xs, ok b → H b = some (.lst xs) → ok' b) : Lsts ok' H' vs rs := Paired.mapP h fun _ _ ⟨b, e, a, q⟩ => ⟨b, e, o _ _ a q, k _ _ a q⟩
theorem Lsts.set {ok : Addr → Prop} {H : Hp} {b : Addr} {r : List Nat} (hb : ok b) (hr : H b = some (.lst (r.map iV))) : ∀ {vs : List V} {rs : List (List Nat)} (i : Nat), Lsts ok H vs rs → Lsts ok H (vs.set i (.ref b)) (rs.set i r)
  | [], _, i, h => by cases h; exact .nil
  | v :: vs, rs, 0, h => by
    cases h with
    | cons a t => exact .cons ⟨b, rfl, hb, hr⟩ t
  | v :: vs, rs, i + 1, h => by
    cases h with
    | cons a t => exact .cons a (Lsts.set hb hr i t)
theorem SmP.free {p c f : Addr} {H H' : Hp} (k : SmP p c H H') (pl : Pool H' p c) (hf : H' f = none) : H f = none := by
  obtain ⟨⟨xp, ep⟩, xc, ec⟩ := pl.ls
  rcases hq : H f with _ | u
  · rfl
  · rw [k _ _ (fun z => by rw [z, ep] at hf; cases hf) (fun z => by rw [z, ec] at hf; cases hf) hq] at hf; cases hf
theorem same_none {f : Addr} {H H' : Hp} (k : Same H H') (hf : H' f = none) : H f = none := by
  rcases hq : H f with _ | u
  · rfl
  · rw [k _ _ hq] at hf; cases hf
def spBlocks : Sp := fun vs H Q _ => ∃ (p c : Addr) (n : Nat), vs = [.ref p, iV n] ∧ Pool H p c ∧ 0 < n ∧ n ≤ 100 ∧
  ∀ H' l ws rs, H l = none → SmP p c H H' → Pool H' p c → H' l = some (.lst ws) → Lsts (fun b => H b = none ∧ b ≠ l) H' ws rs → rs.length = n → Own rs n → Q (.ref l) H'
theorem asc_range (a : Nat) : ∀ k : Nat, Asc ((List.range k).map fun i => a + i)
  | 0 => List.Pairwise.nil
  | k + 1 => by
    unfold Asc
    rw [List.range_succ, List.map_append, List.pairwise_append]
    refine ⟨asc_range a k, by simp, fun x hx y hy => ?_⟩
    obtain ⟨i, hi, rfl⟩ := List.mem_map.mp hx
    obtain ⟨j, hj, rfl⟩ := List.mem_map.mp hy
    rw [List.mem_singleton.mp hj]
    have := List.mem_range.mp hi
    omega
theorem asc_snoc {r : List Nat} {x : Nat} (h : Asc r) (hx : ∀ y ∈ r, y < x) : Asc (r ++ [x]) := List.pairwise_append.mpr ⟨h, by simp, fun a ha b hb => by rw [List.mem_singleton.mp hb]; exact hx a ha⟩
theorem SmP.refl (p c : Addr) (H : Hp) : SmP p c H H := fun _ _ _ _ e => e
theorem SmP.tr {p c : Addr} {H H1 H2 : Hp} (h : SmP p c H H1) (k : SmP p c H1 H2) : SmP p c H H2 := fun b u n1 n2 e => k b u n1 n2 (h b u n1 n2 e)
/-- a test that may draw, and whose outcome is open -/
def AnyT (p c : Addr) (t : TT) (σ : L2.St) : Prop := ∀ H Q, Pool H p c → (∀ b H', SmP p c H H' → Pool H' p c → Q b H') → t σ H Q
theorem any_or {p c : Addr} {t u : TT} {σ : L2.St} (a : AnyT p c t σ) (b : AnyT p c u σ) : AnyT p c (tOr t u) σ := fun H Q pl q => a H _ pl fun x H1 s1 pl1 => by
  cases x with
  | true => exact iteT (q true H1 s1 pl1)
  | false => exact iteF (b H1 Q pl1 fun y H2 s2 pl2 => q y H2 (s1.tr s2) pl2)
theorem any_and {p c : Addr} {t u : TT} {σ : L2.St} (a : AnyT p c t σ) (b : AnyT p c u σ) : AnyT p c (tAnd t u) σ := fun H Q pl q => a H _ pl fun x H1 s1 pl1 => by
  cases x with
  | false => exact iteF (q false H1 s1 pl1)
  | true => exact iteT (b H1 Q pl1 fun y H2 s2 pl2 => q y H2 (s1.tr s2) pl2)
theorem any_draw {p c : Addr} {σ : L2.St} {i m : Nat} (h : σ[i]? = some (some (.ref p))) (h0 : 0 < m) (h1 : m ≤ 1000) : AnyT p c (tTest (tOp rEq (tCall spDraw [] E0 (tCons (tVar i) (tCons (tC (iV m)) tNil))) (tC (.int 0)))) σ := fun H Q pl q =>
  ⟨_, h, p, c, m, rfl, pl, h0, h1, fun H' d hd sm pl' => ⟨rfl, _, rfl, q _ _ sm pl'⟩⟩
theorem any_eq {p c : Addr} {σ : L2.St} {i k : Nat} {z : Int} (h : σ[i]? = some (some (iV k))) : AnyT p c (tTest (tOp rEq (tVar i) (tC (.int z)))) σ := fun H Q pl q =>
  ⟨_, h, rfl, _, rfl, q _ _ (SmP.refl p c H) pl⟩
section
variable {P : Program} {w : World} {K : PySem.W.Frag} {mg : Str → Option Value} {base : Heap}
theorem D_law_blocks (T : Hd K mg) : Fn P w K mg base CX0 2 "_law_blocks" spBlocks := by
  have D_law_draw := fun {P w base} => D_law_draw (P := P) (w := w) (base := base) T
  obtain ⟨fd, F⟩ := T.d_law_blocks
  refine ⟨T.g_law_blocks, T.p_law_blocks, fd, ["_law_pool_here", "_law_many"], ?_, FunD.bindsN F fun _ _ _ _ _ _ us hl => match us, hl with | [_, _], _ => rfl⟩
  refine F.ok sc_law_blocks (fun vs H Q E h => ?_) (fun cdv A outer s H vs Q E hr h => ⟨_, PSs.nox (pss_cons (ps_set (i := 2) sc_law_blocks.nd rfl (.inl rfl) (pe_lst pa_nil))
      (pss_cons (ps_set (i := 3) sc_law_blocks.nd rfl (.inr rfl) pe_int)
      (pss_cons (ps_while PassesOwn.never (pt_cmpR op_lt (pv 3) (pv 1) (nomark _))
        (pss_cons (ps_set (i := 4) sc_law_blocks.nd rfl (.inr rfl) (pe_op op_add pe_int (pe_fn D_law_draw (hr.mono (by first | decide | omega)) rfl pass0 (pa_cons (pv 0) (pa_cons (pe_callB (call_min2 rfl) rfl T.f_min bt_min (pa_cons pe_int (pa_cons (pe_op op_sub (pv 1) (pv 3)) pa_nil))) pa_nil)))))
        (pss_cons (ps_set (i := 2) sc_law_blocks.nd rfl (.inl rfl) (pe_op op_cat (pv 2) (pe_lc (own := [("_law_k", 8)]) rfl sc_law_blocks.nd (pi_range1 rfl T.f_range (pa_cons (pv 4) pa_nil)) (blkOk_by (own := [("_law_k", 8)]) (N := n_law_blocks) (sc := defScope s_law_blocks) (by decide +kernel)) (fun _ _ _ _ _ => (pg_name (i := 8) sc_law_blocks.nd rfl (.inl rfl))) (fun _ _ _ _ _ => pts_nil) (fun _ _ _ _ _ => (pe_listRg rfl rfl T.f_list (prg_2 rfl T.f_range (pv 3) (pe_op op_add (pv 3) (pv 4))))))))
        (pss_one (ps_set (i := 3) sc_law_blocks.nd rfl (.inr rfl) (pe_op op_add (pv 3) (pv 4)))))))
      (pss_cons (ps_set (i := 5) sc_law_blocks.nd rfl (.inl rfl) (pe_fn D_law_draw (hr.mono (by first | decide | omega)) rfl pass0 (pa_cons (pv 0) (pa_cons pe_int pa_nil))))
      (pss_cons (ps_for PassesOwn.never rfl (pi_range1 rfl T.f_range (pa_cons (pv 1) pa_nil)) (pg_name (i := 6) sc_law_blocks.nd rfl (.inl rfl))
        (pss_one (ps_for PassesOwn.never rfl (pi_range2 rfl T.f_range (pa_cons (pe_op op_add (pe_callB (cr_max rfl) rfl T.f_max bt_max (pa_cons (pe_ix ix_list (pv 2) (pv 6) (fun _ _ => rfl)) pa_nil)) pe_int) (pa_cons (pv 1) pa_nil))) (pg_name (i := 7) sc_law_blocks.nd rfl (.inl rfl))
          (pss_one (ps_if (PW.pt (pw_or (PW.pt (pw_and (pt_cmpR op_eq (pv 5) pe_int (nomark _)) (pw_and1 (pt_cmpR op_eq (pe_fn D_law_draw (hr.mono (by first | decide | omega)) rfl pass0 (pa_cons (pv 0) (pa_cons pe_int pa_nil))) pe_int (nomark _))))) (pw_or1 (PW.pt (pw_and (pt_cmpR op_eq (pv 5) pe_int (nomark _)) (pw_and1 (pt_cmpR op_eq (pe_fn D_law_draw (hr.mono (by first | decide | omega)) rfl pass0 (pa_cons (pv 0) (pa_cons pe_int pa_nil))) pe_int (nomark _))))))))
            (pss_one (ps_asg (pe_op op_cat (pe_ix ix_list (pv 2) (pv 6) (fun _ _ => rfl)) (pe_lst (pa_cons (pv 7) pa_nil))) (pg_sub (pv 2) (pv 6) set_list)))
            pss_nil)))))
      (pss_one (ps_ret (pv 2)))))))), ?_⟩)
  · obtain ⟨_, _, _, rfl, _⟩ := h; rfl
  · obtain ⟨p, c, n, rfl, hpool, hn0, hn, q⟩ := h
    obtain ⟨⟨xp, ep⟩, xc, ec⟩ := hpool.ls
    refine ⟨Nat.zero_le _, fun l0 hl0 => ?_⟩
    have s0 := Same.new (o := .lst []) hl0
    refine ⟨fun μ σ H1 => ∃ (l last : Nat) (ws : List V) (rs : List (List Nat)) (x4 x5 x6 x7 x8 : Option V), σ = [some (.ref p), some (iV n), some (.ref l), some (iV last), x4, x5, x6, x7, x8] ∧ H l = none ∧ SmP p c H H1 ∧ Pool H1 p c ∧ H1 l = some (.lst ws) ∧ Lsts (fun b => H b = none ∧ b ≠ l) H1 ws rs ∧ rs.length = last ∧ last ≤ n ∧ Own rs n ∧ μ = n - last, ⟨n, l0, 0, [], [], _, _, _, _, _, rfl, hl0, fun b u _ _ e => s0 _ _ e, hpool.at (fun u e => s0 _ _ e) (fun u e => s0 _ _ e), upd_same, .nil, rfl, Nat.zero_le _, (fun i r z => by cases z), rfl⟩, ?_⟩
    rintro μ σ H1 ⟨l, last, ws, rs, x4, x5, x6, x7, x8, rfl, hl, sm1, pl1, hl1, hls, hrl, hle, own, rfl⟩
    have hwl : ws.length = last := by rw [Paired.length hls, hrl]
    refine ⟨_, rfl, _, rfl, _, _, rfl, rfl, decide (last < n), congrArg V.bl (decide_eq_decide.mpr ⟨fun h => by omega, fun h => by omega⟩), ?_⟩
    by_cases hlt : last < n
    · rw [decide_eq_true hlt]
      refine iteT ⟨fun σ' H' => _, fun σ' H' h => h, ?_⟩
      have hm : (if ((n : Nat) : Int) - ((last : Nat) : Int) < 3 then ((n : Nat) : Int) - ((last : Nat) : Int) else 3) = ((min 3 (n - last) : Nat) : Int) := by split <;> omega
      refine ⟨_, rfl, _, rfl, _, rfl, _, _, rfl, rfl, _, _, rfl, p, c, min 3 (n - last), by rw [hm]; rfl, pl1, by omega, by omega, fun H2 d hd sm2 pl2 => ⟨_, _, rfl, rfl, ?_⟩⟩
      have lp : l ≠ p := fun z => by rw [z, ep] at hl; cases hl
      have lc : l ≠ c := fun z => by rw [z, ec] at hl; cases hl
      have hl2 := sm2 _ _ lp lc hl1
      refine ⟨_, rfl, _, rfl, _, rfl, by omega, by omega, fun D hD => ?_⟩
      have ew : ((((1 : Int) + ((d : Nat) : Int))).toNat) = 1 + d := by omega
      have lD : l ≠ D := ne_of_none hl2 hD
      refine lc_S (walk_rangeN (n := ((1 : Int) + ((d : Nat) : Int)).toNat)) hD (fun _ => False) (fun j acc H' => Lsts (fun b => H b = none ∧ b ≠ l ∧ b ≠ D) H' acc (List.replicate j ((List.range (1 + d)).map fun i => last + i))) (fun z => z) (small1000 (by rw [ew]; omega)) (fun _ _ _ _ _ => True.intro)
        (fun i acc H H' ys hd k r => r.keep (fun b xs o e => k _ _ o.2.2 e) (fun _ _ o _ => o)) .nil ?_ ?_
      · rintro j v H3 H' acc Fin Skip hj hla k hacc rr ⟨rfl, rfl⟩ fin skip
        have k : Same H2 H' := fun b u e => k b u (fun z => z) e
        refine ⟨rfl, _, rfl, _, rfl, _, rfl, _, _, rfl, rfl, _, _, rfl, rfl, RgOk.of_le (by omega) (by omega) (by omega) (by omega), fun f hf => fin _ _ (fun b u _ e => Same.new hf b u e) ?_⟩
        have e1 : rgV ((last : Nat) : Int) (((last : Nat) : Int) + (1 + ((d : Nat) : Int))) = ((List.range (1 + d)).map fun i => last + i).map iV := by
          unfold rgV
          rw [show (((last : Nat) : Int) + (1 + ((d : Nat) : Int)) - ((last : Nat) : Int)).toNat = 1 + d by omega, List.map_map]
          exact List.map_congr_left fun i _ => congrArg V.int (by simp)
        have hf0 : H f = none := SmP.free sm1 pl1 (SmP.free sm2 pl2 (same_none k hf))
        rw [List.replicate_succ', e1]
        exact Paired.snoc (Paired.mapP rr fun _ _ ⟨b, e, a, z⟩ => ⟨b, e, a, (Same.new hf) _ _ z⟩) ⟨f, rfl, ⟨hf0, fun z => ne_of_none (k _ _ hl2) hf z.symm, fun z => ne_of_none hacc hf z.symm⟩, upd_same⟩
      · intro H3 acc k hla hacc rr
        have k : Same H2 H3 := fun b u e => k b u (fun z => z) e
        rw [ew] at rr hla
        have hal : acc.length = 1 + d := by rw [Paired.length rr, List.length_replicate]
        refine ⟨l, D, ws, acc, rfl, rfl, k _ _ hl2, hacc, by rw [sizeLine_eq]; omega, fun l' hl' => ?_⟩
        have sl := Same.new (o := .lst (ws ++ acc)) hl'
        have pl3 : Pool H3 p c := pl2.at (fun u e => k _ _ e) (fun u e => k _ _ e)
        have sm3 : SmP p c H H3 := fun b u n1 n2 e => k _ _ (sm2 _ _ n1 n2 (sm1 _ _ n1 n2 e))
        refine ⟨_, rfl, _, rfl, _, _, rfl, rfl, n - (last + (1 + d)), by omega, l', last + (1 + d), ws ++ acc, rs ++ List.replicate (1 + d) ((List.range (1 + d)).map fun i => last + i), _, _, _, _, _, rfl, SmP.free sm3 pl3 hl', fun b u n1 n2 e => sl _ _ (sm3 _ _ n1 n2 e), pl3.at (fun u e => sl _ _ e) (fun u e => sl _ _ e), upd_same, ?_, by rw [List.length_append, List.length_replicate, hrl], by omega, fun i r hi => ?_, rfl⟩
        · refine paired_app (hls.keep (fun b xs o e => ?_) (fun b xs o e => ?_)) (rr.keep (fun b xs o e => ?_) (fun b xs o e => ?_))
          · exact sl _ _ (k _ _ (sm2 _ _ (fun z => by rw [z, ep] at o; cases o.1) (fun z => by rw [z, ec] at o; cases o.1) e))
          · exact ⟨o.1, ne_of_none (k _ _ (sm2 _ _ (fun z => by rw [z, ep] at o; cases o.1) (fun z => by rw [z, ec] at o; cases o.1) e)) hl'⟩
          · exact sl _ _ e
          · exact ⟨o.1, ne_of_none e hl'⟩
        · rcases Nat.lt_or_ge i last with z | z
          · rw [List.getElem?_append_left (by omega)] at hi
            exact own i r hi
          · rw [List.getElem?_append_right (by omega)] at hi
            obtain ⟨hi2, rfl⟩ := List.getElem?_eq_some_iff.mp hi
            rw [List.length_replicate] at hi2
            rw [List.getElem_replicate]
            refine ⟨List.mem_map.mpr ⟨i - last, List.mem_range.mpr (by omega), by omega⟩, asc_range _ _, fun x hx => ?_⟩
            obtain ⟨y, hy, rfl⟩ := List.mem_map.mp hx
            have := List.mem_range.mp hy
            omega
    · rw [decide_eq_false hlt]
      refine iteF ?_
      have hln : last = n := by omega
      subst hln
      have lp : l ≠ p := fun z => by rw [z, ep] at hl; cases hl
      have lc : l ≠ c := fun z => by rw [z, ec] at hl; cases hl
      -- what stays true of the inner lists
      have okp : ∀ {b : Addr}, H b = none → b ≠ p ∧ b ≠ c := fun {b} e => ⟨fun z => (by rw [z, ep] at e; cases e), fun z => (by rw [z, ec] at e; cases e)⟩
      refine ⟨_, rfl, p, c, 3, rfl, pl1, by decide, by decide, fun H2 kd hkd sm2 pl2 => ?_⟩
      refine ⟨_, rfl, _, rfl, by omega, by omega, ?_⟩
      refine for_range (lo := 0) (n := last) (fun i σ H3 => ∃ (ws : List V) (rs : List (List Nat)) (x6 x7 x8 : Option V), σ = [some (.ref p), some (iV last), some (.ref l), some (iV last), x4, some (iV kd), x6, x7, x8] ∧ SmP p c H H3 ∧ Pool H3 p c ∧ H3 l = some (.lst ws) ∧ Lsts (fun b => H b = none ∧ b ≠ l) H3 ws rs ∧ rs.length = last ∧ Own rs last) ?_ ?_ ?_
      · exact ⟨ws, rs, _, _, _, rfl, sm1.tr sm2, pl2, sm2 _ _ lp lc hl1, hls.keep (fun b xs o e => sm2 _ _ (okp o.1).1 (okp o.1).2 e) (fun _ _ o _ => o), hrl, own⟩
      · rintro i σ H3 hi ⟨ws3, rs3, x6, x7, x8, rfl, sm3, pl3, hl3, hls3, hrl3, own3⟩
        rw [Int.zero_add]
        obtain ⟨r, hr⟩ : ∃ r, rs3[i]? = some r := ⟨_, List.getElem?_eq_getElem (by omega)⟩
        obtain ⟨v, hv, b, rfl, ob, hb⟩ := Paired.at hls3 hr
        obtain ⟨oi, oa, ox⟩ := own3 i r hr
        refine ⟨_, rfl, _, rfl, l, _, _, _, rfl, rfl, SqL.of hl3, atI_nat hv, b, r.map fun x => ((x : Nat) : Int), rfl, SqL.of (by rw [hb, List.map_map]; rfl), by rw [List.length_map]; exact List.length_pos_of_mem oi, fun m hm hmax => ?_⟩
        obtain ⟨x0, hx0, rfl⟩ := List.mem_map.mp hm
        have hx0n := ox x0 hx0
        refine ⟨_, _, rfl, rfl, _, rfl, _, _, rfl, ⟨by omega, by omega, by omega, by omega⟩, ?_⟩
        refine for_range (fun j σ H4 => ∃ (ws : List V) (rs : List (List Nat)) (x7 x8 : Option V), σ = [some (.ref p), some (iV last), some (.ref l), some (iV last), x4, some (iV kd), some (iV i), x7, x8] ∧ SmP p c H H4 ∧ Pool H4 p c ∧ H4 l = some (.lst ws) ∧ Lsts (fun b => H b = none ∧ b ≠ l) H4 ws rs ∧ rs.length = last ∧ Own rs last ∧ ∀ r, rs[i]? = some r → ∀ x ∈ r, x < x0 + 1 + j) ?_ ?_ ?_
        · refine ⟨ws3, rs3, _, _, rfl, sm3, pl3, hl3, hls3, hrl3, own3, fun r' hr' x hx => ?_⟩
          rw [hr] at hr'
          cases hr'
          have := Int.ofNat_le.mp (hmax _ (List.mem_map.mpr ⟨x, hx, rfl⟩))
          omega
        · rintro j σ H4 hj ⟨ws4, rs4, x7, x8, rfl, sm4, pl4, hl4, hls4, hrl4, own4, hlt4⟩
          have et : V.int (((x0 : Nat) : Int) + 1 + ((j : Nat) : Int)) = iV (x0 + 1 + j) := rfl
          rw [et]
          have hwl4 : ws4.length = last := by rw [Paired.length hls4, hrl4]
          refine any_or (any_and (any_eq rfl) (any_draw (m := 3) rfl (by decide) (by decide))) (any_and (any_eq rfl) (any_draw (m := 2) rfl (by decide) (by decide))) H4 _ pl4 fun t H5 sm5 pl5 => ?_
          have hl5 := sm5 _ _ lp lc hl4
          have hls5 := hls4.keep (H' := H5) (ok' := fun b => H b = none ∧ b ≠ l) (fun b xs o e => sm5 _ _ (okp o.1).1 (okp o.1).2 e) (fun _ _ o _ => o)
          cases t with
          | false => exact iteF ⟨ws4, rs4, _, _, rfl, sm4.tr sm5, pl5, hl5, hls5, hrl4, own4, fun r hr x hx => by have := hlt4 r hr x hx; omega⟩
          | true =>
            obtain ⟨r4, hr4⟩ : ∃ r, rs4[i]? = some r := ⟨_, List.getElem?_eq_getElem (by omega)⟩
            obtain ⟨v4, hv4, b4, rfl, ob4, hb4⟩ := Paired.at hls5 hr4
            obtain ⟨oi4, oa4, ox4⟩ := own4 i r4 hr4
            have hlt5 := hlt4 r4 hr4
            refine iteT ⟨_, rfl, _, rfl, l, _, _, _, rfl, rfl, SqL.of hl5, atI_nat hv4, _, rfl, sz1, fun f hf => ?_⟩
            have sf := Same.new (o := .lst [iV (x0 + 1 + j)]) hf
            have hr4l : r4.length ≤ last := by
              have := nodup_len (Asc.nodup oa4) (k := List.range last) (fun y hy => List.mem_range.mpr (ox4 y hy))
              rwa [List.length_range] at this
            refine ⟨b4, f, _, _, rfl, rfl, sf _ _ hb4, upd_same, by rw [sizeLine_eq, List.length_map]; show r4.length + 1 ≤ _; omega, fun g hg => ?_⟩
            have sg := Same.new (o := .lst (r4.map iV ++ [iV (x0 + 1 + j)])) hg
            have sfg := Same.trans sf sg
            have hg0 : H g = none := SmP.free sm4 pl4 (SmP.free sm5 pl5 (same_none sf hg))
            have gl : g ≠ l := fun z => ne_of_none (sf _ _ hl5) hg z.symm
            have hl6 := sfg _ _ hl5
            have hls6 := hls5.keep (H' := upd (upd H5 f (.lst [iV (x0 + 1 + j)])) g (.lst (r4.map iV ++ [iV (x0 + 1 + j)]))) (ok' := fun b => H b = none ∧ b ≠ l) (fun b xs _ e => sfg _ _ e) (fun _ _ o _ => o)
            have hg6 : (upd (upd H5 f (.lst [iV (x0 + 1 + j)])) g (.lst (r4.map iV ++ [iV (x0 + 1 + j)]))) g = some (.lst ((r4 ++ [x0 + 1 + j]).map iV)) := by rw [upd_same, List.map_append]; rfl
            have pl6 : Pool (upd (upd H5 f (.lst [iV (x0 + 1 + j)])) g (.lst (r4.map iV ++ [iV (x0 + 1 + j)]))) p c := pl5.at (fun u e => sfg _ _ e) (fun u e => sfg _ _ e)
            generalize (upd (upd H5 f (.lst [iV (x0 + 1 + j)])) g (.lst (r4.map iV ++ [iV (x0 + 1 + j)]))) = H6 at sfg hl6 hls6 hg6 pl6 ⊢
            have hnew : Lsts (fun b => H b = none ∧ b ≠ l) H6 (ws4.set i (.ref g)) (rs4.set i (r4 ++ [x0 + 1 + j])) := Lsts.set ⟨hg0, gl⟩ hg6 i hls6
            refine ⟨_, rfl, _, rfl, l, ws4, ((i : Nat) : Int), i, rfl, rfl, hl6, ixN_lt (by omega), ws4.set i (.ref g), rs4.set i (r4 ++ [x0 + 1 + j]), _, _, rfl, fun b u n1 n2 e => ?_, pl6.at (fun u e => by rw [upd_ne lp.symm]; exact e) (fun u e => by rw [upd_ne lc.symm]; exact e), upd_same, hnew.keep (fun b xs o e => by rw [upd_ne o.2]; exact e) (fun _ _ o _ => o), by rw [List.length_set]; exact hrl4, fun i' r' hi' => ?_, fun r' hr' x hx => ?_⟩
            · rw [upd_ne (fun z => by rw [z, hl] at e; cases e)]
              exact sfg _ _ (sm5 _ _ n1 n2 (sm4 _ _ n1 n2 e))
            · by_cases ei : i' = i
              · subst ei
                rw [List.getElem?_set_self (by omega)] at hi'
                cases hi'
                refine ⟨List.mem_append_left _ oi4, asc_snoc oa4 hlt5, fun x hx => ?_⟩
                rcases List.mem_append.mp hx with hx | hx
                · exact ox4 x hx
                · rw [List.mem_singleton.mp hx]; omega
              · rw [List.getElem?_set_ne (fun z => ei z.symm)] at hi'
                exact own4 i' r' hi'
            · rw [List.getElem?_set_self (by omega)] at hr'
              cases hr'
              rcases List.mem_append.mp hx with hx | hx
              · have := hlt5 x hx; omega
              · rw [List.mem_singleton.mp hx]; omega
        · rintro σ H4 ⟨ws4, rs4, x7, x8, rfl, sm4, pl4, hl4, hls4, hrl4, own4, _⟩
          exact ⟨ws4, rs4, _, _, _, rfl, sm4, pl4, hl4, hls4, hrl4, own4⟩
      · rintro σ H3 ⟨ws3, rs3, x6, x7, x8, rfl, sm3, pl3, hl3, hls3, hrl3, own3⟩
        exact ⟨_, rfl, q H3 l ws3 rs3 hl sm3 pl3 hl3 hls3 hrl3 own3⟩
end
end Fo
end
section
set_option Elab.async false
set_option linter.all false
set_option maxRecDepth 100000
set_option maxHeartbeats 8000000
set_option pp.maxSteps 900
namespace Fo
open PySem PySem.Spec PyProof.Rows L2 LamX NdefX
theorem nat_list {ms : List Int} {l : List Nat} (h : ms.Perm (l.map fun (n : Nat) => (n : Int))) : ∃ ns : List Nat, ms = ns.map (fun (n : Nat) => (n : Int)) ∧ ns.Perm l := by
  refine ⟨ms.map Int.toNat, ?_, ?_⟩
  · rw [List.map_map]
    refine (List.map_id ms).symm.trans (List.map_congr_left fun z hz => ?_)
    obtain ⟨n, _, rfl⟩ := List.mem_map.mp (h.mem_iff.mp hz)
    rfl
  · have := h.map Int.toNat
    rw [List.map_map] at this
    exact this.trans (by rw [show l.map (Int.toNat ∘ fun (n : Nat) => (n : Int)) = l.map id from List.map_congr_left fun _ _ => rfl, List.map_id])
theorem asc_of_le {l : List Nat} (h : (l.map fun (n : Nat) => (n : Int)).Pairwise (· ≤ ·)) (nd : l.Nodup) : Asc l := by
  rw [List.pairwise_map] at h
  exact (h.and nd).imp fun ⟨a, b⟩ => by omega
/-- sorted(set(l)), l a list of numbers: what comes of it -/
theorem setsort {ns : List Nat} {ms : List Int} (hms : ms.Pairwise (· < ·)) (hmem : ∀ z, z ∈ ms ↔ decide (z ∈ ns.map fun (n : Nat) => (n : Int)) = true) : ∃ ks : List Nat, ms = ks.map (fun (n : Nat) => (n : Int)) ∧ Asc ks ∧ ∀ x, x ∈ ks ↔ x ∈ ns := by
  obtain ⟨ks, rfl⟩ : ∃ ks : List Nat, ms = ks.map fun (n : Nat) => (n : Int) := by
    refine ⟨ms.map Int.toNat, ?_⟩
    rw [List.map_map]
    refine (List.map_id ms).symm.trans (List.map_congr_left fun z hz => ?_)
    obtain ⟨n, _, rfl⟩ := List.mem_map.mp (of_decide_eq_true ((hmem z).mp hz))
    rfl
  refine ⟨ks, rfl, ?_, fun x => ?_⟩
  · rw [List.pairwise_map] at hms
    exact hms.imp fun h => by omega
  · have := hmem (x : Int)
    rw [decide_eq_true_iff] at this
    have inj : ∀ l : List Nat, ((x : Int) ∈ l.map fun (n : Nat) => (n : Int)) ↔ x ∈ l := fun l => by
      rw [List.mem_map]
      exact ⟨fun ⟨n, hn, e⟩ => by have : n = x := by omega
                                  rw [← this]; exact hn, fun h => ⟨x, h, rfl⟩⟩
    rw [← inj, ← inj]; exact this
theorem mixed_nats {ys : List V} {l : List Nat} (h : ys.Perm (l.map iV)) : ∃ ns : List Nat, ys = ns.map iV ∧ ns.Perm l := by
  let f : V → Nat := fun v => match v with
    | .int z => z.toNat
    | _ => 0
  refine ⟨ys.map f, ?_, ?_⟩
  · rw [List.map_map]
    refine (List.map_id ys).symm.trans (List.map_congr_left fun z hz => ?_)
    obtain ⟨n, _, rfl⟩ := List.mem_map.mp (h.mem_iff.mp hz)
    rfl
  · have := h.map f
    rw [List.map_map] at this
    exact this.trans (by rw [show l.map (f ∘ iV) = l.map id from List.map_congr_left fun _ _ => rfl, List.map_id])
theorem rg0 (n : Nat) : rgV 0 ((n : Nat) : Int) = (List.range n).map iV := by
  unfold rgV
  rw [show (((n : Nat) : Int) - 0).toNat = n by omega]
  exact List.map_congr_left fun i _ => congrArg V.int (Int.zero_add _)
/-- rows that have a dealing -/
def spMkRows (lo hi : Nat) : Sp := fun vs H Q _ => ∃ (p c : Addr) (n : Nat), vs = [.ref p, iV n] ∧ Pool H p c ∧ lo ≤ n ∧ n ≤ hi ∧ ∀ H' ra rows, SmP p c H H' → Pool H' p c → Rows H' ra rows → Good rows n → Q (.ref ra) H'
section
variable {P : Program} {w : World} {K : PySem.W.Frag} {mg : Str → Option Value} {base : Heap}
theorem D_law_wide_rows (T : Hd K mg) : Fn P w K mg base CX0 3 "_law_wide_rows" (spMkRows 1 6) := by
  have D_law_draw := fun {P w base} => D_law_draw (P := P) (w := w) (base := base) T
  have D_law_mixed := fun {P w base} => D_law_mixed (P := P) (w := w) (base := base) T
  obtain ⟨fd, F⟩ := T.d_law_wide_rows
  refine ⟨T.g_law_wide_rows, T.p_law_wide_rows, fd, ["_law_pool_here", "_law_many"], ?_, FunD.bindsN F fun _ _ _ _ _ _ us hl => match us, hl with | [_, _], _ => rfl⟩
  refine F.ok sc_law_wide_rows (fun vs H Q E h => ?_) (fun cdv A outer s H vs Q E hr h => ⟨_, PSs.nox (pss_cons (ps_set (i := 2) sc_law_wide_rows.nd rfl (.inr rfl) (pe_lst pa_nil))
      (pss_cons (ps_for PassesOwn.never rfl (pi_range1 rfl T.f_range (pa_cons (pv 1) pa_nil)) (pg_name (i := 3) sc_law_wide_rows.nd rfl (.inl rfl))
        (pss_one (ps_expr (pe_bm PySem.F.plainAttrs_list PySem.F.slot_list_append PySem.F.type_list_append mt_append (pv 2) (pa_cons (pe_callB (cr_sortedSetMK (w := w) rfl) rfl T.f_sorted bt_sorted (pa_cons (pe_callTy (cr_setLK (K := K) (w := w) rfl) rfl T.f_set bt_set (pa_cons (pe_lst (pa_cons (pv 3) (pa_cons (pe_op op_mod (pe_callTy call_int1 rfl T.f_int bt_int (pa_cons (pe_op op_add (pe_op op_add (pv 3) pe_int) (pe_fn D_law_draw (hr.mono (by first | decide | omega)) rfl pass0 (pa_cons (pv 0) (pa_cons pe_int pa_nil)))) pa_nil)) (pv 1)) (pa_cons (pe_op op_mod (pe_callTy call_int1 rfl T.f_int bt_int (pa_cons (pe_op op_add (pv 3) (pe_fn D_law_draw (hr.mono (by first | decide | omega)) rfl pass0 (pa_cons (pv 0) (pa_cons pe_int pa_nil)))) pa_nil)) (pv 1)) pa_nil)))) pa_nil)) pa_nil)) pa_nil)))))
      (pss_cons (ps_set (i := 4) sc_law_wide_rows.nd rfl (.inr rfl) (pe_fn D_law_mixed (hr.mono (by first | decide | omega)) rfl pass0 (pa_cons (pv 0) (pa_cons (pe_listRg rfl rfl T.f_list (prg_1 rfl T.f_range (pv 1))) pa_nil))))
      (pss_cons (ps_set (i := 5) sc_law_wide_rows.nd rfl (.inl rfl) (pe_fn D_law_mixed (hr.mono (by first | decide | omega)) rfl pass0 (pa_cons (pv 0) (pa_cons (pe_listRg rfl rfl T.f_list (prg_1 rfl T.f_range (pv 1))) pa_nil))))
      (pss_one (ps_ret (pe_callTy call_tuple_of rfl T.f_tuple bt_tuple (pa_cons (pe_lc (own := [("_law_k", 3)]) rfl sc_law_wide_rows.nd (pi_list (pv 5)) (blkOk_by (own := [("_law_k", 3)]) (N := n_law_wide_rows) (sc := defScope s_law_wide_rows) (by decide +kernel)) (fun _ _ _ _ _ => (pg_name (i := 3) sc_law_wide_rows.nd rfl (.inl rfl))) (fun _ _ _ _ _ => pts_nil) (fun _ _ _ _ _ => (pe_callTy (call_tuple_ofK (K := K)) rfl T.f_tuple bt_tuple (pa_cons (pe_callB (cr_sortedK (K := K)) rfl T.f_sorted bt_sorted (pa_cons (pe_lc (own := [("_law_thing", 6)]) rfl sc_law_wide_rows.nd (pi_listK (K := K) (pe_ix (ix_listK (K := K)) (pv 2) (pv 3) (fun _ _ => rfl))) (blkOk_by (own := [("_law_thing", 6)]) (N := n_law_wide_rows) (sc := ({ kind := .function, names := [((".0" : PySem.Str), .local), (("_law_k" : PySem.Str), .local), (("tuple" : PySem.Str), .globalImplicit), (("sorted" : PySem.Str), .globalImplicit), (("_law_places" : PySem.Str), .cell), (("_law_rows_here" : PySem.Str), .cell)], isGenerator := false, isCoroutine := false } : Scope)) (by decide +kernel)) (fun _ _ _ _ _ => (pg_name (i := 6) sc_law_wide_rows.nd rfl (.inl rfl))) (fun _ _ _ _ _ => pts_nil) (fun _ _ _ _ _ => (pe_ix (ix_listK (K := K)) (pv 4) (pv 6) (fun _ _ => rfl)))) pa_nil)) pa_nil)))) pa_nil)))))))), ?_⟩)
  · obtain ⟨_, _, _, rfl, _⟩ := h; rfl
  · obtain ⟨p, c, n, rfl, hpool, hn0, hn, q⟩ := h
    obtain ⟨⟨xp, ep⟩, xc, ec⟩ := hpool.ls
    refine ⟨Nat.zero_le _, fun l hl => ?_⟩
    have s0 := Same.new (o := .lst []) hl
    have lp : l ≠ p := fun z => by rw [z, ep] at hl; cases hl
    have lc : l ≠ c := fun z => by rw [z, ec] at hl; cases hl
    have okp : ∀ {b : Addr}, H b = none → b ≠ p ∧ b ≠ c := fun {b} e => ⟨fun z => (by rw [z, ep] at e; cases e), fun z => (by rw [z, ec] at e; cases e)⟩
    refine ⟨_, rfl, _, rfl, by omega, by omega, ?_⟩
    refine for_range (lo := 0) (n := n) (fun i σ H1 => ∃ (ws : List V) (rs : List (List Nat)) (x3 x4 x5 x6 : Option V), σ = [some (.ref p), some (iV n), some (.ref l), x3, x4, x5, x6] ∧ SmP p c H H1 ∧ Pool H1 p c ∧ H1 l = some (.lst ws) ∧ Lsts (fun b => H b = none ∧ b ≠ l) H1 ws rs ∧ rs.length = i ∧ Own rs n) ?_ ?_ ?_
    · exact ⟨[], [], _, _, _, _, rfl, fun b u _ _ e => s0 _ _ e, hpool.at (fun u e => s0 _ _ e) (fun u e => s0 _ _ e), upd_same, .nil, rfl, fun i r z => nomatch z⟩
    · rintro i σ H1 hi ⟨ws, rs, x3, x4, x5, x6, rfl, sm1, pl1, hl1, hls, hrl, own⟩
      rw [Int.zero_add]
      have hwl : ws.length = i := by rw [Paired.length hls, hrl]
      refine ⟨_, rfl, .inl ⟨rfl, _, SqL.of hl1⟩, _, rfl, _, rfl, _, _, rfl, rfl, _, rfl, p, c, 3, rfl, pl1, by decide, by decide, fun H2 d1 hd1 sm2 pl2 => ?_⟩
      have hl2 := sm2 _ _ lp lc hl1
      refine ⟨_, _, rfl, rfl, .inl ⟨_, rfl, _, rfl, _, _, rfl, rfl, (by omega : (0 : Int) < ((n : Nat) : Int)), _, rfl, _, rfl, p, c, 2, rfl, pl2, by decide, by decide, fun H3 d2 hd2 sm3 pl3 => ?_⟩⟩
      have hl3 := sm3 _ _ lp lc hl2
      refine ⟨_, _, rfl, rfl, .inl ⟨_, rfl, _, rfl, _, _, rfl, rfl, (by omega : (0 : Int) < ((n : Nat) : Int)), (show 3 ≤ sizeLine by rw [sizeLine_eq]; omega), fun f hf => ?_⟩⟩
      refine ⟨f, [i, (i + 1 + d1) % n, (i + d2) % n].map fun (n : Nat) => (n : Int), rfl, SqL.of upd_same, by show 3 ≤ 1000; decide, fun sp c2 hc2 hsp => ?_⟩
      refine ⟨sp, _, _, [i, (i + 1 + d1) % n, (i + d2) % n].map fun (n : Nat) => (n : Int), rfl, upd_same, fun j hj => of_decide_eq_true hj, by show 3 < 64; decide, fun ms b hms hmem _ hb0 => ?_⟩
      obtain ⟨ms, rfl, ha, hm⟩ := setsort hms hmem
      have hbf := same_none (Same.new hsp) hb0
      have hb3 := same_none (Same.new hf) hbf
      generalize eH : upd (upd (upd H3 f _) sp _) b _ = H4
      have s34 : Same H3 H4 := by rw [← eH]; exact Same.trans (Same.new hf) (Same.trans (Same.new hsp) (Same.new hb0))
      have hb : H4 b = some (.lst (ms.map iV)) := by rw [← eH, upd_same, List.map_map]; rfl
      clear eH
      have hl4 := s34 _ _ hl3
      have pl4 : Pool H4 p c := pl3.at (fun u e => s34 _ _ e) (fun u e => s34 _ _ e)
      have sm4 : SmP p c H H4 := fun b u n1 n2 e => s34 _ _ (sm3 _ _ n1 n2 (sm2 _ _ n1 n2 (sm1 _ _ n1 n2 e)))
      have bH : H b = none := SmP.free sm1 pl1 (SmP.free sm2 pl2 (SmP.free sm3 pl3 hb3))
      have bl : b ≠ l := fun z => ne_of_none hl3 hb3 z.symm
      have hls4 : Lsts (fun b => H b = none ∧ b ≠ l) H4 ws rs := hls.keep (fun b xs o e => s34 _ _ (sm3 _ _ (okp o.1).1 (okp o.1).2 (sm2 _ _ (okp o.1).1 (okp o.1).2 e))) (fun _ _ o _ => o)
      refine ⟨l, ws, _, rfl, rfl, hl4, by rw [sizeLine_eq]; omega, ws ++ [.ref b], rs ++ [ms], _, _, _, _, rfl, fun b' u n1 n2 e => ?_, pl4.at (fun u e => by rw [upd_ne lp.symm]; exact e) (fun u e => by rw [upd_ne lc.symm]; exact e), upd_same, ?_, by rw [List.length_append, hrl]; rfl, fun i' r hi' => ?_⟩
      · rw [upd_ne (fun z => by rw [z, hl] at e; cases e)]
        exact sm4 _ _ n1 n2 e
      · refine Paired.snoc (hls4.keep (fun b xs o e => by rw [upd_ne o.2]; exact e) (fun _ _ o _ => o)) ⟨b, rfl, ⟨bH, bl⟩, by rw [upd_ne bl]; exact hb⟩
      · rcases Nat.lt_or_ge i' i with z | z
        · rw [List.getElem?_append_left (by omega)] at hi'
          exact own i' r hi'
        · have hii : i' = i := by
            have := (List.getElem?_eq_some_iff.mp hi').1
            rw [List.length_append, hrl] at this
            have : i' < i + 1 := this
            omega
          subst hii
          rw [List.getElem?_append_right (by omega), hrl, Nat.sub_self] at hi'
          cases hi'
          refine ⟨(hm i').mpr List.mem_cons_self, ha, fun x hx => ?_⟩
          have := (hm x).mp hx
          have e1 : (i' + 1 + d1) % n < n := Nat.mod_lt _ hn0
          have e2 : (i' + d2) % n < n := Nat.mod_lt _ hn0
          rcases List.mem_cons.mp this with rfl | this
          · exact hi
          · rcases List.mem_cons.mp this with rfl | this
            · exact e1
            · rw [List.mem_singleton.mp this]; exact e2
    · rintro σ H1 ⟨ws, rs, x3, x4, x5, x6, rfl, sm1, pl1, hl1, hls, hrl, own⟩
      refine ⟨_, rfl, _, rfl, _, rfl, RgOk.of_le (by omega) (by omega) (by omega) (by omega), fun a ha => ?_⟩
      have sa := Same.new (o := .lst (rgV 0 ((n : Nat) : Int))) ha
      have a0 := SmP.free sm1 pl1 ha
      refine ⟨p, c, a, (List.range n).map iV, rfl, pl1.at (fun u e => sa _ _ e) (fun u e => sa _ _ e), (okp a0).1, (okp a0).2, by rw [upd_same, rg0], by rw [List.length_map, List.length_range]; omega, fun H2 pl ys hperm hpl0 sm2 pl2 p2 => ?_⟩
      obtain ⟨pls, rfl, hpl⟩ := mixed_nats hperm
      have sm12 : SmP p c H H2 := fun b u n1 n2 e => sm2 _ _ n1 n2 (sa _ _ (sm1 _ _ n1 n2 e))
      have hplH : H pl = none := SmP.free sm1 pl1 (same_none sa hpl0)
      refine ⟨_, rfl, _, rfl, _, rfl, RgOk.of_le (by omega) (by omega) (by omega) (by omega), fun a2 ha2 => ?_⟩
      have sa2 := Same.new (o := .lst (rgV 0 ((n : Nat) : Int))) ha2
      have a20 := SmP.free sm12 pl2 ha2
      refine ⟨p, c, a2, (List.range n).map iV, rfl, pl2.at (fun u e => sa2 _ _ e) (fun u e => sa2 _ _ e), (okp a20).1, (okp a20).2, by rw [upd_same, rg0], by rw [List.length_map, List.length_range]; omega, fun H5 o ys hperm2 ho0 sm3 pl5 o5 => ?_⟩
      obtain ⟨od, rfl, hod⟩ := mixed_nats hperm2
      have lift : ∀ b u, H b = none → H1 b = some u → H5 b = some u := fun b u z e => sm3 _ _ (okp z).1 (okp z).2 (sa2 _ _ (sm2 _ _ (okp z).1 (okp z).2 (sa _ _ e)))
      have p5 : H5 pl = some (.lst (pls.map iV)) := sm3 _ _ (okp hplH).1 (okp hplH).2 (sa2 _ _ p2)
      have sm5 : SmP p c H H5 := fun b u n1 n2 e => sm3 _ _ n1 n2 (sa2 _ _ (sm12 _ _ n1 n2 e))
      have r5 : H5 l = some (.lst ws) := lift _ _ hl hl1
      have ls5 : Lsts (fun b => H b = none ∧ b ≠ l) H5 ws rs := hls.keep (fun b xs o e => lift _ _ o.1 e) (fun _ _ o _ => o)
      have g5 : Good rs n := own.good hrl
      have fin5 : ∀ H' ra rows, Same H5 H' → Rows H' ra rows → Good rows n → Q (.ref ra) H' := fun H' ra rows s a b => q H' ra rows (fun b u n1 n2 e => s _ _ (sm5 _ _ n1 n2 e)) (pl5.at (fun u e => s _ _ e) (fun u e => s _ _ e)) a b
      generalize hrs : rs = rs5 at ls5 g5
      generalize hro : l = ro at r5
      refine ⟨_, rfl, o, rfl, ⟨_, SqL.of o5⟩, fun D hD => ?_⟩
      refine lc_same walk_list hD (fun j acc H => ∃ rows : List (List Nat), Tups H acc (rows.map fun (r : List Nat) => r.map iV) ∧ rows.length = j ∧ ∀ (i k : Nat) (r' : List Nat), od[i]? = some k → rows[i]? = some r' → Asc r' ∧ r'.Perm ((rowOf rs5 k).map fun x => pls.getD x 0)) (by rw [List.length_map, pm_len hod]; exact small1000 (by omega)) (fun H' k => SqL.of (k _ _ o5)) (fun i acc H H' ys hd k ⟨rows, a, b⟩ => ⟨rows, Tups.x a k (fun xs z => by rw [hd] at z; cases z), b⟩) ⟨[], .nil, rfl, fun i k r' _ z => nomatch z⟩ ?_ ?_
      · rintro j v H6 H' acc Fin Skip hj hla k ⟨rows, rt, rl, rm⟩ ⟨rfl, yy⟩ fin skip
        obtain ⟨x, hx, rfl⟩ := map_at yy
        have hxn := pm_mem hod (List.mem_of_getElem? hx)
        obtain ⟨r, hr⟩ : ∃ r, rs5[x]? = some r := ⟨_, List.getElem?_eq_getElem (by rw [g5.len]; exact hxn)⟩
        obtain ⟨v5, hv5, b, rfl, _, hb⟩ := Paired.at ls5 hr
        obtain ⟨ra, rx⟩ := g5.row r (List.mem_of_getElem? hr)
        have hrl : r.length ≤ n := by
          have := nodup_len (Asc.nodup ra) (k := List.range n) (fun y hy => List.mem_range.mpr (rx y hy))
          rwa [List.length_range] at this
        refine ⟨rfl, _, rfl, _, rfl, ro, _, _, _, rfl, rfl, SqL.of (k _ _ r5), atI_nat hv5, b, rfl, ⟨_, SqL.of (k _ _ hb)⟩, fun D2 hD2 => ?_⟩
        refine lc_same walk_list hD2 (fun i acc2 _ => acc2 = (r.take i).map fun y => iV (pls.getD y 0)) (by rw [List.length_map]; exact small1000 (by omega)) (fun H' k2 => SqL.of (k2 _ _ (k _ _ hb))) (fun _ _ _ _ _ _ _ h => h) rfl ?_ ?_
        · rintro i v H7 H'' acc2 Fin2 Skip2 hi2 hla2 k2 rr ⟨rfl, yy2⟩ fin2 skip2
          obtain ⟨y, hy, rfl⟩ := map_at yy2
          have hyn := rx y (List.mem_of_getElem? hy)
          refine ⟨rfl, _, rfl, _, rfl, pl, _, _, _, rfl, rfl, SqL.of (k2 _ _ (k _ _ p5)), atI_nat (by rw [List.getElem?_map, pm_get hpl hyn]; rfl), fin2 _ _ (Same.refl _) ?_⟩
          rw [rr, take_snoc hy, List.map_append]; rfl
        · intro H7 acc2 k2 hla2 hacc2 rr2
          rw [List.length_map, List.take_length] at rr2
          refine ⟨D2, (r.map fun y => pls.getD y 0).map fun (n : Nat) => (n : Int), rfl, SqL.of (by rw [hacc2, rr2, List.map_map, List.map_map]; rfl), by rw [List.length_map, List.length_map]; omega, fun ms sp hperm hpw hsp => ?_⟩
          obtain ⟨ms, rfl, hpm⟩ := nat_list hperm
          have sn := Same.new (o := .lst ((ms.map fun (n : Nat) => (n : Int)).map V.int)) hsp
          have hnd : (r.map fun y => pls.getD y 0).Nodup := List.pairwise_map.mpr (List.Pairwise.imp_of_mem (fun {a b} ha hb hab z => hab (pm_inj hpl (rx a ha) (rx b hb) z)) (Asc.nodup ra))
          refine ⟨sp, _, rfl, .inl ⟨SqL.of upd_same, fun tp htp => fin _ _ (Same.trans k2 (Same.trans sn (Same.new htp))) ⟨rows ++ [ms], ?_, by rw [List.length_append, rl]; rfl, fun i k' r' e1 e2 => ?_⟩⟩⟩
          · rw [List.map_append]
            exact Tups.snoc (((rt.same k2).same sn).same (Same.new htp)) (by rw [upd_same, List.map_map]; rfl)
          · rcases Nat.lt_or_ge i j with z | z
            · rw [List.getElem?_append_left (by omega)] at e2
              exact rm i k' r' e1 e2
            · have hij : i = j := by
                have := (List.getElem?_eq_some_iff.mp e2).1
                rw [List.length_append, rl] at this
                have : i < j + 1 := this
                omega
              subst hij
              rw [List.getElem?_append_right (by omega), rl, Nat.sub_self] at e2
              cases e2
              rw [hx] at e1
              cases e1
              rw [rowOf_eq hr]
              exact ⟨asc_of_le hpw (hpm.nodup_iff.mpr hnd), hpm⟩
      · rintro H6 acc k hla hacc ⟨rows, rt, rl, rm⟩
        rw [List.length_map, pm_len hod] at rl
        refine ⟨D, acc, rfl, .inl ⟨SqL.of hacc, fun tp htp => ?_⟩⟩
        exact fin5 _ tp rows (Same.trans k (Same.new htp)) ⟨acc, upd_same, rt.same (Same.new htp)⟩ (g5.ren hpl hod rl rm)
end
end Fo
end
section
set_option Elab.async false
set_option linter.all false
set_option maxRecDepth 100000
set_option maxHeartbeats 8000000
set_option pp.maxSteps 900
namespace Fo
open PySem PySem.Spec PyProof.Rows L2 LamX NdefX
/-- a statement, what holds behind it, the rest -/
def tMid (t u : TS) : TS := fun D σ H => ∃ Pv : L2.St → Hp → Prop, t { D with nx := Pv } σ H ∧ ∀ σ' H', Pv σ' H' → u D σ' H'
theorem pss_mid {X : Cx} {st : Stmt} {rest : List Stmt} {t u : TS} (h1 : PS X st t) (h2 : PSs X rest u) : PSs X (st :: rest) (tMid t u) := by
  refine ⟨fun pins s σ H D I q => ?_⟩
  obtain ⟨Pv, q1, q2⟩ := q
  have h3 : PSs X rest (fun D' σ' H' => D' = D ∧ Pv σ' H') := ⟨fun pins s σ H D' I ⟨e, z⟩ => by subst e; exact h2.run pins s σ H D' I (q2 σ H z)⟩
  refine (pss_cons h1 h3).run pins s σ H D I ?_
  have e : (fun σ' H' => D = D ∧ Pv σ' H') = Pv := funext fun σ' => funext fun H' => propext ⟨fun z => z.2, fun z => ⟨rfl, z⟩⟩
  show t { D with nx := fun σ' H' => D = D ∧ Pv σ' H' } σ H
  rw [e]
  exact q1
theorem and_to {t u : TT} {σ : L2.St} {H : Hp} {Q : Bool → Hp → Prop} {a b : Bool} (h1 : ∀ Q' : Bool → Hp → Prop, Q' a H → t σ H Q') (h2 : ∀ Q' : Bool → Hp → Prop, Q' b H → u σ H Q') (q : Q (a && b) H) : tAnd t u σ H Q := h1 _ (by
  cases a with
  | true => exact iteT (h2 _ q)
  | false => exact iteF q)
/-- the rows, whatever their kind -/
def RowsAt (H : Hp) (p c : Addr) (n : Nat) (σ' : L2.St) (H' : Hp) : Prop := ∃ (l : Addr) (ws : List V) (rs : List (List Nat)) (x2 x3 x4 x6 x7 x8 x9 x10 : Option V), σ' = [some (.ref p), some (iV n), x2, x3, x4, some (.ref l), x6, x7, x8, x9, x10] ∧ H l = none ∧ SmP p c H H' ∧ Pool H' p c ∧ H' l = some (.lst ws) ∧ Lsts (fun b => H b = none ∧ b ≠ l) H' ws rs ∧ Good rs n
section
variable {P : Program} {w : World} {K : PySem.W.Frag} {mg : Str → Option Value} {base : Heap}
theorem D_law_rows (T : Hd K mg) : Fn P w K mg base CX0 3 "_law_rows" (spMkRows 1 6) := by
  have D_law_draw := fun {P w base} => D_law_draw (P := P) (w := w) (base := base) T
  have D_law_mixed := fun {P w base} => D_law_mixed (P := P) (w := w) (base := base) T
  have D_law_blocks := fun {P w base} => D_law_blocks (P := P) (w := w) (base := base) T
  obtain ⟨fd, F⟩ := T.d_law_rows
  refine ⟨T.g_law_rows, T.p_law_rows, fd, ["_law_pool_here", "_law_many"], ?_, FunD.bindsN F fun _ _ _ _ _ _ us hl => match us, hl with | [_, _], _ => rfl⟩
  refine F.ok sc_law_rows (fun vs H Q E h => ?_) (fun cdv A outer s H vs Q E hr h => ⟨_, PSs.nox (pss_cons (ps_set (i := 2) sc_law_rows.nd rfl (.inl rfl) (pe_fn D_law_draw (hr.mono (by first | decide | omega)) rfl pass0 (pa_cons (pv 0) (pa_cons pe_int pa_nil))))
      (pss_cons (ps_set (i := 3) sc_law_rows.nd rfl (.inr rfl) (pe_fn D_law_mixed (hr.mono (by first | decide | omega)) rfl pass0 (pa_cons (pv 0) (pa_cons (pe_listRg rfl rfl T.f_list (prg_1 rfl T.f_range (pv 1))) pa_nil))))
      (pss_mid (ps_if (pt_cmpR op_lt (pv 2) pe_int (nomark _))
        (pss_cons (ps_set (i := 4) sc_law_rows.nd rfl (.inr rfl) (pe_op op_add pe_int (pe_fn D_law_draw (hr.mono (by first | decide | omega)) rfl pass0 (pa_cons (pv 0) (pa_cons pe_int pa_nil)))))
        (pss_one (ps_set (i := 5) sc_law_rows.nd rfl (.inr rfl) (pe_lc (own := [("_law_k", 9)]) rfl sc_law_rows.nd (pi_range1 rfl T.f_range (pa_cons (pv 1) pa_nil)) (blkOk_by (own := [("_law_k", 9)]) (N := n_law_rows) (sc := defScope s_law_rows) (by decide +kernel)) (fun _ _ _ _ _ => (pg_name (i := 9) sc_law_rows.nd rfl (.inr rfl))) (fun _ _ _ _ _ => pts_nil) (fun _ _ _ _ _ => (pe_lc (own := [("_law_thing", 10)]) rfl sc_law_rows.nd (pi_range1 rfl T.f_range (pa_cons (pv 1) pa_nil)) (blkOk_by (own := [("_law_thing", 10)]) (N := n_law_rows) (sc := ({ kind := .function, names := [((".0" : PySem.Str), .local), (("_law_k" : PySem.Str), .cell), (("range" : PySem.Str), .globalImplicit), (("_law_chance" : PySem.Str), .cell), (("_law_many" : PySem.Str), .cell), (("_law_own" : PySem.Str), .cell), (("_law_pool_here" : PySem.Str), .cell)], isGenerator := false, isCoroutine := false } : Scope)) (by decide +kernel)) (fun _ _ _ _ _ => (pg_name (i := 10) sc_law_rows.nd rfl (.inl rfl))) (fun _ _ _ _ _ => (pts_one (PW.pt (pw_or (pt_cmpR op_eq (pv 10) (pe_ix (ix_listK (K := K)) (pv 3) (pv 9) (fun _ _ => rfl)) (nomark _)) (pw_or1 (pt_cmpR op_lt (pe_fn D_law_draw (hr.mono (by first | decide | omega)) rfl pass0 (pa_cons (pv 0) (pa_cons pe_int pa_nil))) (pv 4) (nomark _))))))) (fun _ _ _ _ _ => (pv 10))))))))
        (pss_one (ps_if (pt_cmpR op_lt (pv 2) pe_int (nomark _))
          (pss_one (ps_set (i := 5) sc_law_rows.nd rfl (.inr rfl) (pe_fn D_law_blocks (hr.mono (by first | decide | omega)) rfl pass0 (pa_cons (pv 0) (pa_cons (pv 1) pa_nil)))))
          (pss_one (ps_if (PW.pt (pw_and (pt_cmpR op_eq (pv 2) pe_int (nomark _)) (pw_and1 (pt_cmpR op_gt (pv 1) pe_int (nomark _)))))
            (pss_one (ps_set (i := 5) sc_law_rows.nd rfl (.inr rfl) (pe_lc (own := [("_law_k", 9)]) rfl sc_law_rows.nd (pi_range1 rfl T.f_range (pa_cons (pv 1) pa_nil)) (blkOk_by (own := [("_law_k", 9)]) (N := n_law_rows) (sc := defScope s_law_rows) (by decide +kernel)) (fun _ _ _ _ _ => (pg_name (i := 9) sc_law_rows.nd rfl (.inr rfl))) (fun _ _ _ _ _ => pts_nil) (fun _ _ _ _ _ => (pe_lc (own := [("_law_thing", 10)]) rfl sc_law_rows.nd (pi_range1 rfl T.f_range (pa_cons (pv 1) pa_nil)) (blkOk_by (own := [("_law_thing", 10)]) (N := n_law_rows) (sc := ({ kind := .function, names := [((".0" : PySem.Str), .local), (("_law_k" : PySem.Str), .cell), (("range" : PySem.Str), .globalImplicit), (("_law_many" : PySem.Str), .cell)], isGenerator := false, isCoroutine := false } : Scope)) (by decide +kernel)) (fun _ _ _ _ _ => (pg_name (i := 10) sc_law_rows.nd rfl (.inl rfl))) (fun _ _ _ _ _ => (pts_one (pt_cmpR op_ne (pv 10) (pv 9) (nomark _)))) (fun _ _ _ _ _ => (pv 10)))))))
            (pss_one (ps_set (i := 5) sc_law_rows.nd rfl (.inr rfl) (pe_lc (own := [("_law_k", 9)]) rfl sc_law_rows.nd (pi_range1 rfl T.f_range (pa_cons (pv 1) pa_nil)) (blkOk_by (own := [("_law_k", 9)]) (N := n_law_rows) (sc := defScope s_law_rows) (by decide +kernel)) (fun _ _ _ _ _ => (pg_name (i := 9) sc_law_rows.nd rfl (.inl rfl))) (fun _ _ _ _ _ => pts_nil) (fun _ _ _ _ _ => (pe_callB (cr_sortedSetMK (w := w) rfl) rfl T.f_sorted bt_sorted (pa_cons (pe_callTy (cr_setLK (K := K) (w := w) rfl) rfl T.f_set bt_set (pa_cons (pe_lst (pa_cons (pv 9) (pa_cons (pe_op op_mod (pe_callTy call_int1 rfl T.f_int bt_int (pa_cons (pe_op op_add (pv 9) pe_int) pa_nil)) (pv 1)) pa_nil))) pa_nil)) pa_nil)))))))))))
      (pss_mid (ps_if (pt_cmpR op_eq (pe_fn D_law_draw (hr.mono (by first | decide | omega)) rfl pass0 (pa_cons (pv 0) (pa_cons pe_int pa_nil))) pe_int (nomark _))
        (pss_cons (ps_set (i := 6) sc_law_rows.nd rfl (.inl rfl) (pe_fn D_law_draw (hr.mono (by first | decide | omega)) rfl pass0 (pa_cons (pv 0) (pa_cons (pv 1) pa_nil))))
        (pss_one (ps_asg (pe_callB (cr_sortedSetMK (w := w) rfl) rfl T.f_sorted bt_sorted (pa_cons (pe_callTy (cr_setLK (K := K) (w := w) rfl) rfl T.f_set bt_set (pa_cons (pe_op op_cat (pe_ix ix_list (pv 5) (pv 6) (fun _ _ => rfl)) (pe_lst (pa_cons (pe_fn D_law_draw (hr.mono (by first | decide | omega)) rfl pass0 (pa_cons (pv 0) (pa_cons (pv 1) pa_nil))) pa_nil))) pa_nil)) pa_nil)) (pg_sub (pv 5) (pv 6) set_list))))
        pss_nil)
      (pss_cons (ps_set (i := 7) sc_law_rows.nd rfl (.inr rfl) (pe_fn D_law_mixed (hr.mono (by first | decide | omega)) rfl pass0 (pa_cons (pv 0) (pa_cons (pe_listRg rfl rfl T.f_list (prg_1 rfl T.f_range (pv 1))) pa_nil))))
      (pss_cons (ps_set (i := 8) sc_law_rows.nd rfl (.inl rfl) (pe_fn D_law_mixed (hr.mono (by first | decide | omega)) rfl pass0 (pa_cons (pv 0) (pa_cons (pe_listRg rfl rfl T.f_list (prg_1 rfl T.f_range (pv 1))) pa_nil))))
      (pss_one (ps_ret (pe_callTy call_tuple_of rfl T.f_tuple bt_tuple (pa_cons (pe_lc (own := [("_law_k", 9)]) rfl sc_law_rows.nd (pi_list (pv 8)) (blkOk_by (own := [("_law_k", 9)]) (N := n_law_rows) (sc := defScope s_law_rows) (by decide +kernel)) (fun _ _ _ _ _ => (pg_name (i := 9) sc_law_rows.nd rfl (.inl rfl))) (fun _ _ _ _ _ => pts_nil) (fun _ _ _ _ _ => (pe_callTy (call_tuple_ofK (K := K)) rfl T.f_tuple bt_tuple (pa_cons (pe_callB (cr_sortedK (K := K)) rfl T.f_sorted bt_sorted (pa_cons (pe_lc (own := [("_law_thing", 10)]) rfl sc_law_rows.nd (pi_listK (K := K) (pe_ix (ix_listK (K := K)) (pv 5) (pv 9) (fun _ _ => rfl))) (blkOk_by (own := [("_law_thing", 10)]) (N := n_law_rows) (sc := ({ kind := .function, names := [((".0" : PySem.Str), .local), (("_law_k" : PySem.Str), .local), (("tuple" : PySem.Str), .globalImplicit), (("sorted" : PySem.Str), .globalImplicit), (("_law_places" : PySem.Str), .cell), (("_law_rows_here" : PySem.Str), .cell)], isGenerator := false, isCoroutine := false } : Scope)) (by decide +kernel)) (fun _ _ _ _ _ => (pg_name (i := 10) sc_law_rows.nd rfl (.inl rfl))) (fun _ _ _ _ _ => pts_nil) (fun _ _ _ _ _ => (pe_ix (ix_listK (K := K)) (pv 7) (pv 10) (fun _ _ => rfl)))) pa_nil)) pa_nil)))) pa_nil)))))))))), ?_⟩)
  · obtain ⟨_, _, _, rfl, _⟩ := h; rfl
  · obtain ⟨p, c, n, rfl, hpool, hn0, hn, q⟩ := h
    obtain ⟨⟨xp, ep⟩, xc, ec⟩ := hpool.ls
    have okp : ∀ {b : Addr}, H b = none → b ≠ p ∧ b ≠ c := fun {b} e => ⟨fun z => (by rw [z, ep] at e; cases e), fun z => (by rw [z, ec] at e; cases e)⟩
    refine ⟨_, rfl, p, c, 6, rfl, hpool, by decide, by decide, fun Ha kd hkd sma pla => ?_⟩
    refine ⟨_, rfl, _, rfl, _, rfl, RgOk.of_le (by omega) (by omega) (by omega) (by omega), fun a ha => ?_⟩
    have sa := Same.new (o := .lst (rgV 0 ((n : Nat) : Int))) ha
    have a0 := SmP.free sma pla ha
    refine ⟨p, c, a, (List.range n).map iV, rfl, pla.at (fun u e => sa _ _ e) (fun u e => sa _ _ e), (okp a0).1, (okp a0).2, by rw [upd_same, rg0], by rw [List.length_map, List.length_range]; omega, fun Hb oa ys hperm hoa0 smb plb hoa => ?_⟩
    obtain ⟨own, rfl, hown⟩ := mixed_nats hperm
    have smab : SmP p c H Hb := fun b u n1 n2 e => smb _ _ n1 n2 (sa _ _ (sma _ _ n1 n2 e))
    have hoaH : H oa = none := SmP.free sma pla (same_none sa hoa0)
    refine ⟨RowsAt H p c n, ?_, ?_⟩
    · refine ⟨_, rfl, _, _, rfl, rfl, decide (kd < 2), congrArg V.bl (decide_eq_decide.mpr ⟨fun h => by omega, fun h => by omega⟩), ?_⟩
      by_cases k2 : kd < 2
      · rw [decide_eq_true k2]
        refine iteT ⟨_, rfl, p, c, 4, rfl, plb, by decide, by decide, fun Hc ch hch smc plc => ⟨_, _, rfl, rfl, ?_⟩⟩
        have smac := smab.tr smc
        have hoac := smc _ _ (okp hoaH).1 (okp hoaH).2 hoa
        refine ⟨_, rfl, _, rfl, by omega, by omega, fun D hD => ?_⟩
        have hD0 := SmP.free smac plc hD
        refine lc_S (walk_rangeN (n := n)) hD (fun b => b = p ∨ b = c) (fun j acc H' => Pool H' p c ∧ ∃ rs : List (List Nat), Lsts (fun b => H b = none ∧ b ≠ D) H' acc rs ∧ rs.length = j ∧ ∀ (i : Nat) (r : List Nat), rs[i]? = some r → own.getD i 0 ∈ r ∧ Asc r ∧ ∀ x ∈ r, x < n) (fun z => z.elim (okp hD0).1 (okp hD0).2) (small1000 (by omega)) (fun _ _ _ _ _ => True.intro)
          (fun i acc H H' ys hd k ⟨r1, rs, r2, r3⟩ => ⟨r1.at (fun u e => k _ _ (okp hD0).1.symm e) (fun u e => k _ _ (okp hD0).2.symm e), rs, r2.keep (fun b xs o e => k _ _ o.2 e) (fun _ _ o _ => o), r3⟩) ⟨plc.at (fun u e => Same.new hD _ _ e) (fun u e => Same.new hD _ _ e), [], .nil, rfl, fun i r z => nomatch z⟩ ?_ ?_
        · rintro j v H3 H' acc Fin Skip hj hla k hacc ⟨pl3, rs, hls, hrl, hm⟩ ⟨rfl, rfl⟩ fin skip
          refine ⟨rfl, _, rfl, _, rfl, by omega, by omega, fun D2 hD2 => ?_⟩
          have sm3 : SmP p c H H' := fun b u n1 n2 e => k _ _ (fun z => z.elim n1 n2) (smac _ _ n1 n2 e)
          have hD20 := SmP.free sm3 pl3 hD2
          refine lc_S (walk_rangeN (n := n)) hD2 (fun b => b = p ∨ b = c) (fun i acc2 H' => Pool H' p c ∧ ∃ r : List Nat, acc2 = r.map iV ∧ Asc r ∧ (∀ x ∈ r, x < i) ∧ (own.getD j 0 < i → own.getD j 0 ∈ r)) (fun z => z.elim (okp hD20).1 (okp hD20).2) (small1000 (by omega)) (fun _ _ _ _ _ => True.intro)
            (fun i acc H H' ys hd k ⟨r1, r2⟩ => ⟨r1.at (fun u e => k _ _ (okp hD20).1.symm e) (fun u e => k _ _ (okp hD20).2.symm e), r2⟩) ⟨pl3.at (fun u e => Same.new hD2 _ _ e) (fun u e => Same.new hD2 _ _ e), [], rfl, List.Pairwise.nil, (fun x z => by cases z), fun z => absurd z (Nat.not_lt_zero _)⟩ ?_ ?_
          · rintro i v H4 H4' acc2 Fin2 Skip2 hi hla2 k2 hacc2 ⟨pl4, r, rfl, ra, rx, ro⟩ ⟨rfl, rfl⟩ fin2 skip2
            have npc : ¬ (oa = p ∨ oa = c) := fun z => z.elim (okp hoaH).1 (okp hoaH).2
            have hoa4 := k2 _ _ npc (k _ _ npc hoac)
            have addI : ∀ H5, SmP p c H4' H5 → Pool H5 p c → Fin2 (iV i) H5 := fun H5 sm5 pl5 => fin2 _ _ (fun b u nb e => sm5 _ _ (fun z => nb (.inl z)) (fun z => nb (.inr z)) e) ⟨pl5, r ++ [i], by rw [List.map_append]; rfl, asc_snoc ra rx, fun x hx => by
              rcases List.mem_append.mp hx with hx | hx
              · have := rx x hx; omega
              · rw [List.mem_singleton.mp hx]; omega, fun z => by
              rcases Nat.lt_or_ge (own.getD j 0) i with y | y
              · exact List.mem_append_left _ (ro y)
              · have : own.getD j 0 = i := by omega
                rw [this]; exact List.mem_append_right _ List.mem_cons_self⟩
            refine ⟨rfl, _, rfl, _, rfl, _, rfl, oa, _, _, _, rfl, rfl, SqL.of hoa4, atI_nat (by rw [List.getElem?_map, pm_get hown hj]; rfl), rfl, decide (i = own.getD j 0), ?_, ?_⟩
            · exact congrArg V.bl (decide_eq_decide.mpr ⟨fun z => by injection z with z; exact Int.ofNat.inj z, fun z => by rw [← z]⟩)
            by_cases e : i = own.getD j 0
            · rw [decide_eq_true e]
              exact iteT (iteT ⟨_, rfl, addI _ (SmP.refl p c _) pl4⟩)
            · rw [decide_eq_false e]
              refine iteF ⟨_, rfl, p, c, 5, rfl, pl4, by decide, by decide, fun H5 dd hdd sm5 pl5 => ⟨_, rfl, _, _, rfl, rfl, _, rfl, ?_⟩⟩
              generalize decide (((dd : Nat) : Int) < 1 + ((ch : Nat) : Int)) = b
              cases b with
              | true => exact iteT ⟨_, rfl, addI _ sm5 pl5⟩
              | false =>
                refine iteF (skip2 _ (fun b u nb e => sm5 _ _ (fun z => nb (.inl z)) (fun z => nb (.inr z)) e) ⟨pl5, r, rfl, ra, fun x hx => by have := rx x hx; omega, fun z => ro (by omega)⟩)
          · rintro H4 acc2 k2 hla2 hacc2 ⟨pl4, r, rfl, ra, rx, ro⟩
            have nD2 : D2 ≠ D := fun z => ne_of_none hacc hD2 z.symm
            refine fin _ H4 (fun b u nb e => k2 _ _ nb e) ⟨pl4, rs ++ [r], Paired.snoc (hls.keep (fun b xs o e => k2 _ _ (fun z => z.elim (okp o.1).1 (okp o.1).2) e) (fun _ _ o _ => o)) ⟨D2, rfl, ⟨hD20, nD2⟩, hacc2⟩, by rw [List.length_append, hrl]; rfl, fun i' r' hi' => ?_⟩
            rcases Nat.lt_or_ge i' j with z | z
            · rw [List.getElem?_append_left (by omega)] at hi'
              exact hm i' r' hi'
            · have hii : i' = j := by
                have := (List.getElem?_eq_some_iff.mp hi').1
                rw [List.length_append, hrl] at this
                have : i' < j + 1 := this
                omega
              subst hii
              rw [List.getElem?_append_right (by omega), hrl, Nat.sub_self] at hi'
              cases hi'
              exact ⟨ro (pm_lt hown hj), ra, rx⟩
        · rintro H3 acc k hla hacc ⟨pl3, rs, hls, hrl, hm⟩
          exact ⟨D, acc, rs, _, _, _, _, _, _, _, _, rfl, hD0, fun b u n1 n2 e => k _ _ (fun z => z.elim n1 n2) (smac b u n1 n2 e), pl3, hacc, hls, good_of hrl hown hm⟩
      rw [decide_eq_false k2]
      refine iteF ⟨_, rfl, _, _, rfl, rfl, decide (kd < 4), congrArg V.bl (decide_eq_decide.mpr ⟨fun h => by omega, fun h => by omega⟩), ?_⟩
      by_cases k4 : kd < 4
      · rw [decide_eq_true k4]
        refine iteT ⟨_, rfl, _, rfl, p, c, n, rfl, plb, by omega, by omega, fun Hc l ws rs hl smc plc hlc hls hrl ho => ?_⟩
        exact ⟨l, ws, rs, _, _, _, _, _, _, _, _, rfl, SmP.free smab plb hl, smab.tr smc, plc, hlc, hls.keep (fun _ _ _ e => e) (fun _ _ o _ => ⟨SmP.free smab plb o.1, o.2⟩), ho.good hrl⟩
      rw [decide_eq_false k4]
      refine iteF ?_
      refine and_to (a := decide (kd = 4)) (b := decide (1 < n)) (fun Q' q' => ⟨_, rfl, rfl, _, congrArg V.bl (decide_eq_decide.mpr ⟨fun z => by injection z with z; omega, fun z => by rw [z]; rfl⟩), q'⟩) (fun Q' q' => ⟨_, rfl, _, _, rfl, rfl, _, congrArg V.bl (decide_eq_decide.mpr ⟨fun h => by omega, fun h => by omega⟩), q'⟩) ?_
      cases hb : decide (kd = 4) && decide (1 < n) with
      | true =>
        have n1 : 1 < n := of_decide_eq_true (Bool.and_eq_true_iff.mp hb).2
        refine iteT ⟨_, rfl, _, rfl, by omega, by omega, fun D hD => ?_⟩
        have hD0 := SmP.free smab plb hD
        refine lc_S (walk_rangeN (n := n)) hD (fun _ => False) (fun j acc H' => Lsts (fun b => H b = none ∧ b ≠ D) H' acc ((rowsNames n).take j)) (fun z => z) (small1000 (by omega)) (fun _ _ _ _ _ => True.intro)
          (fun i acc H H' ys hd k r2 => r2.keep (fun b xs o e => k _ _ o.2 e) (fun _ _ o _ => o)) .nil ?_ ?_
        · rintro j v H3 H' acc Fin Skip hj hla k hacc hls ⟨rfl, rfl⟩ fin skip
          have k : Same Hb H' := fun b u e => k b u (fun z => z) e
          refine ⟨rfl, _, rfl, _, rfl, by omega, by omega, fun D2 hD2 => ?_⟩
          refine lc_same (walk_rangeN (n := n)) hD2 (fun i acc2 _ => acc2 = ((List.range i).filter fun x => decide (x ≠ j)).map iV) (small1000 (by omega)) (fun _ _ => True.intro) (fun _ _ _ _ _ _ _ h => h) rfl ?_ ?_
          · rintro i v H2 H4 acc2 Fin2 Skip2 hi hla2 k2 rr2 ⟨rfl, rfl⟩ fin2 skip2
            refine ⟨rfl, _, rfl, _, rfl, rfl, decide (i ≠ j), ?_, ?_⟩
            · rw [show decide (i ≠ j) = !decide (i = j) by simp]
              congr 2
              exact decide_eq_decide.mpr ⟨fun z => by injection z with z; omega, fun z => by rw [z]⟩
            · have er : (List.range (i + 1)).filter (fun x => decide (x ≠ j)) = (List.range i).filter (fun x => decide (x ≠ j)) ++ (if decide (i ≠ j) = true then [i] else []) := by
                rw [List.range_succ, List.filter_append]
                congr 1
                cases e : decide (i ≠ j) <;> simp_all
              cases ob : decide (i ≠ j) with
              | true =>
                refine iteT ⟨_, rfl, fin2 _ _ (Same.refl _) ?_⟩
                rw [rr2, er, ob, List.map_append]; rfl
              | false =>
                refine iteF (skip2 _ (Same.refl _) ?_)
                rw [rr2, er, ob, if_neg (by decide), List.append_nil]
          · intro H2 acc2 k2 hla2 hacc2 rr2
            have nD2 : D2 ≠ D := fun z => ne_of_none hacc hD2 z.symm
            refine fin _ _ (fun b u _ e => k2 b u e) ?_
            have hrow : (rowsNames n)[j]? = some ((List.range n).filter fun x => decide (x ≠ j)) := by
              unfold rowsNames
              rw [List.getElem?_map, List.getElem?_range hj]; rfl
            rw [take_snoc hrow]
            exact Paired.snoc (hls.keep (fun b xs o e => k2 _ _ e) (fun _ _ o _ => o)) ⟨D2, rfl, ⟨SmP.free smab plb (same_none k hD2), nD2⟩, by rw [hacc2, rr2]⟩
        · intro H3 acc k hla hacc rr
          have k : Same Hb H3 := fun b u e => k b u (fun z => z) e
          rw [List.take_of_length_le (by unfold rowsNames; rw [List.length_map, List.length_range]; exact Nat.le_refl _)] at rr
          exact ⟨D, acc, rowsNames n, _, _, _, _, _, _, _, _, rfl, hD0, fun b u n1 n2 e => k _ _ (smab b u n1 n2 e), plb.at (fun u e => k _ _ e) (fun u e => k _ _ e), hacc, rr, names_good n1⟩
      | false =>
        refine iteF ⟨_, rfl, _, rfl, by omega, by omega, fun D hD => ?_⟩
        have hD0 := SmP.free smab plb hD
        refine lc_S (walk_rangeN (n := n)) hD (fun _ => False) (fun j acc H' => ∃ rs : List (List Nat), Lsts (fun b => H b = none ∧ b ≠ D) H' acc rs ∧ rs.length = j ∧ Own rs n) (fun z => z) (small1000 (by omega)) (fun _ _ _ _ _ => True.intro)
          (fun i acc H H' ys hd k ⟨rs, r2, r3⟩ => ⟨rs, r2.keep (fun b xs o e => k _ _ o.2 e) (fun _ _ o _ => o), r3⟩) ⟨[], .nil, rfl, fun i r z => nomatch z⟩ ?_ ?_
        · rintro j v H3 H' acc Fin Skip hj hla k hacc ⟨rs, hls, hrl, hown2⟩ ⟨rfl, rfl⟩ fin skip
          have k : Same Hb H' := fun b u e => k b u (fun z => z) e
          refine ⟨rfl, _, rfl, _, rfl, _, _, rfl, rfl, .inl ⟨_, rfl, _, rfl, _, _, rfl, rfl, (by omega : (0 : Int) < ((n : Nat) : Int)), (show 2 ≤ sizeLine by rw [sizeLine_eq]; omega), fun f hf => ?_⟩⟩
          refine ⟨f, [j, (j + 1) % n].map fun (n : Nat) => (n : Int), rfl, SqL.of upd_same, by show 2 ≤ 1000; decide, fun sp c2 hc2 hsp => ?_⟩
          refine ⟨sp, _, _, [j, (j + 1) % n].map fun (n : Nat) => (n : Int), rfl, upd_same, fun j hj => of_decide_eq_true hj, by show 2 < 64; decide, fun ms b hms hmem _ hb0 => ?_⟩
          obtain ⟨ms, rfl, ha, hm⟩ := setsort hms hmem
          have hbf := same_none (Same.new hsp) hb0
          have hb3 := same_none (Same.new hf) hbf
          generalize eH : upd (upd (upd H' f _) sp _) b _ = H4
          have s34 : Same H' H4 := by rw [← eH]; exact Same.trans (Same.new hf) (Same.trans (Same.new hsp) (Same.new hb0))
          have hb : H4 b = some (.lst (ms.map iV)) := by rw [← eH, upd_same, List.map_map]; rfl
          clear eH
          refine fin _ _ (fun b u _ e => s34 b u e) ⟨rs ++ [ms], Paired.snoc (hls.keep (fun b xs o e => s34 _ _ e) (fun _ _ o _ => o)) ⟨b, rfl, ⟨SmP.free smab plb (same_none k hb3), fun z => ne_of_none hacc hb3 z.symm⟩, hb⟩, by rw [List.length_append, hrl]; rfl, fun i' r hi' => ?_⟩
          rcases Nat.lt_or_ge i' j with z | z
          · rw [List.getElem?_append_left (by omega)] at hi'
            exact hown2 i' r hi'
          · have hii : i' = j := by
              have := (List.getElem?_eq_some_iff.mp hi').1
              rw [List.length_append, hrl] at this
              have : i' < j + 1 := this
              omega
            subst hii
            rw [List.getElem?_append_right (by omega), hrl, Nat.sub_self] at hi'
            cases hi'
            refine ⟨(hm i').mpr List.mem_cons_self, ha, fun x hx => ?_⟩
            have := (hm x).mp hx
            have e1 : (i' + 1) % n < n := Nat.mod_lt _ hn0
            rcases List.mem_cons.mp this with rfl | this
            · exact hj
            · rw [List.mem_singleton.mp this]; exact e1
        · rintro H3 acc k hla hacc ⟨rs, hls, hrl, hown2⟩
          have k : Same Hb H3 := fun b u e => k b u (fun z => z) e
          exact ⟨D, acc, rs, _, _, _, _, _, _, _, _, rfl, hD0, fun b u n1 n2 e => k _ _ (smab b u n1 n2 e), plb.at (fun u e => k _ _ e) (fun u e => k _ _ e), hacc, hls, hown2.good hrl⟩
    rintro σ' H' ⟨l, ws, rs, x2, x3, x4, x6, x7, x8, x9, x10, rfl, hl, sm0, pl0, hl0, hls, g0⟩
    refine ⟨RowsAt H p c n, ?_, ?_⟩
    · refine any_draw (m := 3) rfl (by decide) (by decide) H' _ pl0 fun t H1 sm1 pl1 => ?_
      have lp := okp hl
      have hl1 := sm1 _ _ lp.1 lp.2 hl0
      have hls1 := hls.keep (H' := H1) (ok' := fun b => H b = none ∧ b ≠ l) (fun b xs o e => sm1 _ _ (okp o.1).1 (okp o.1).2 e) (fun _ _ o _ => o)
      cases t with
      | false => exact iteF ⟨l, ws, rs, _, _, _, _, _, _, _, _, rfl, hl, sm0.tr sm1, pl1, hl1, hls1, g0⟩
      | true =>
        refine iteT ⟨_, rfl, _, rfl, p, c, n, rfl, pl1, by omega, by omega, fun H2 at_ hat sm2 pl2 => ?_⟩
        have hl2 := sm2 _ _ lp.1 lp.2 hl1
        have hls2 := hls1.keep (H' := H2) (ok' := fun b => H b = none ∧ b ≠ l) (fun b xs o e => sm2 _ _ (okp o.1).1 (okp o.1).2 e) (fun _ _ o _ => o)
        have hwl : ws.length = n := by rw [Paired.length hls, g0.len]
        obtain ⟨r, hr⟩ : ∃ r, rs[at_]? = some r := ⟨_, List.getElem?_eq_getElem (by rw [g0.len]; exact hat)⟩
        obtain ⟨v, hv, b, rfl, ob, hb⟩ := Paired.at hls2 hr
        obtain ⟨ra, rx⟩ := g0.row r (List.mem_of_getElem? hr)
        have hrl : r.length ≤ n := by
          have := nodup_len (Asc.nodup ra) (k := List.range n) (fun y hy => List.mem_range.mpr (rx y hy))
          rwa [List.length_range] at this
        refine ⟨_, rfl, _, rfl, l, _, _, _, rfl, rfl, SqL.of hl2, atI_nat hv, _, rfl, _, rfl, p, c, n, rfl, pl2, by omega, by omega, fun H3 x hx sm3 pl3 => ⟨sz1, fun f hf => ?_⟩⟩
        have hb3 := sm3 _ _ (okp ob.1).1 (okp ob.1).2 hb
        have hl3 := sm3 _ _ lp.1 lp.2 hl2
        have hls3 := hls2.keep (H' := H3) (ok' := fun b => H b = none ∧ b ≠ l) (fun b xs o e => sm3 _ _ (okp o.1).1 (okp o.1).2 e) (fun _ _ o _ => o)
        refine ⟨b, f, _, _, rfl, rfl, Same.new hf _ _ hb3, upd_same, by rw [sizeLine_eq, List.length_map]; show r.length + 1 ≤ _; omega, fun g hg => ?_⟩
        have e1 : r.map iV ++ [iV x] = ((r ++ [x]).map fun (n : Nat) => (n : Int)).map V.int := by rw [List.map_map, List.map_append]; rfl
        refine ⟨g, (r ++ [x]).map fun (n : Nat) => (n : Int), rfl, SqL.of (by rw [upd_same]; exact congrArg (fun z => some (HO.lst z)) e1), by rw [List.length_map, List.length_append]; show r.length + 1 ≤ _; omega, fun sp c2 hc2 hsp => ?_⟩
        refine ⟨sp, _, _, (r ++ [x]).map fun (n : Nat) => (n : Int), rfl, upd_same, fun j hj => of_decide_eq_true hj, by rw [List.length_map, List.length_append]; show r.length + 1 < _; omega, fun ms b2 hms hmem _ hb0 => ?_⟩
        obtain ⟨ms, rfl, ha, hm⟩ := setsort hms hmem
        have hbg := same_none (Same.new hsp) hb0
        have hbf := same_none (Same.new hg) hbg
        have hb20 := same_none (Same.new hf) hbf
        generalize eH : upd (upd (upd (upd H3 f _) g _) sp _) b2 _ = H4
        have s34 : Same H3 H4 := by rw [← eH]; exact Same.trans (Same.new hf) (Same.trans (Same.new hg) (Same.trans (Same.new hsp) (Same.new hb0)))
        have hb2 : H4 b2 = some (.lst (ms.map iV)) := by rw [← eH, upd_same, List.map_map]; rfl
        clear eH
        have hl4 := s34 _ _ hl3
        have pl4 : Pool H4 p c := pl3.at (fun u e => s34 _ _ e) (fun u e => s34 _ _ e)
        have b2l : b2 ≠ l := fun z => ne_of_none hl3 hb20 z.symm
        have b2H : H b2 = none := SmP.free sm0 pl0 (SmP.free sm1 pl1 (SmP.free sm2 pl2 (SmP.free sm3 pl3 hb20)))
        have hnew : Lsts (fun b => H b = none ∧ b ≠ l) H4 (ws.set at_ (.ref b2)) (rs.set at_ ms) := Lsts.set ⟨b2H, b2l⟩ hb2 at_ (hls3.keep (fun b xs o e => s34 _ _ e) (fun _ _ o _ => o))
        refine ⟨_, rfl, _, rfl, l, ws, ((at_ : Nat) : Int), at_, rfl, rfl, hl4, ixN_lt (by omega), l, ws.set at_ (.ref b2), rs.set at_ ms, _, _, _, _, _, _, _, _, rfl, hl, fun b u n1 n2 e => ?_, pl4.at (fun u e => by rw [upd_ne lp.1.symm]; exact e) (fun u e => by rw [upd_ne lp.2.symm]; exact e), upd_same, hnew.keep (fun b xs o e => by rw [upd_ne o.2]; exact e) (fun _ _ o _ => o), g0.tie ha (fun y hy => ?_) (fun y hy => ?_)⟩
        · rw [upd_ne (fun z => by rw [z, hl] at e; cases e)]
          exact s34 _ _ (sm3 _ _ n1 n2 (sm2 _ _ n1 n2 (sm1 _ _ n1 n2 (sm0 _ _ n1 n2 e))))
        · rcases List.mem_append.mp ((hm y).mp hy) with hy | hy
          · exact rx y hy
          · rw [List.mem_singleton.mp hy]; exact hx
        · rw [rowOf_eq hr] at hy
          exact (hm y).mpr (List.mem_append_left _ hy)
    · rintro σ' H1 ⟨l, ws, rs, x2, x3, x4, x6, x7, x8, x9, x10, rfl, hl, sm1, pl1, hl1, hls, g5⟩
      refine ⟨_, rfl, _, rfl, _, rfl, RgOk.of_le (by omega) (by omega) (by omega) (by omega), fun a ha => ?_⟩
      have sa := Same.new (o := .lst (rgV 0 ((n : Nat) : Int))) ha
      have a0 := SmP.free sm1 pl1 ha
      refine ⟨p, c, a, (List.range n).map iV, rfl, pl1.at (fun u e => sa _ _ e) (fun u e => sa _ _ e), (okp a0).1, (okp a0).2, by rw [upd_same, rg0], by rw [List.length_map, List.length_range]; omega, fun H2 pl ys hperm hpl0 sm2 pl2 p2 => ?_⟩
      obtain ⟨pls, rfl, hpl⟩ := mixed_nats hperm
      have sm12 : SmP p c H H2 := fun b u n1 n2 e => sm2 _ _ n1 n2 (sa _ _ (sm1 _ _ n1 n2 e))
      have hplH : H pl = none := SmP.free sm1 pl1 (same_none sa hpl0)
      refine ⟨_, rfl, _, rfl, _, rfl, RgOk.of_le (by omega) (by omega) (by omega) (by omega), fun a2 ha2 => ?_⟩
      have sa2 := Same.new (o := .lst (rgV 0 ((n : Nat) : Int))) ha2
      have a20 := SmP.free sm12 pl2 ha2
      refine ⟨p, c, a2, (List.range n).map iV, rfl, pl2.at (fun u e => sa2 _ _ e) (fun u e => sa2 _ _ e), (okp a20).1, (okp a20).2, by rw [upd_same, rg0], by rw [List.length_map, List.length_range]; omega, fun H5 o ys hperm2 ho0 sm3 pl5 o5 => ?_⟩
      obtain ⟨od, rfl, hod⟩ := mixed_nats hperm2
      have lift : ∀ b u, H b = none → H1 b = some u → H5 b = some u := fun b u z e => sm3 _ _ (okp z).1 (okp z).2 (sa2 _ _ (sm2 _ _ (okp z).1 (okp z).2 (sa _ _ e)))
      have p5 : H5 pl = some (.lst (pls.map iV)) := sm3 _ _ (okp hplH).1 (okp hplH).2 (sa2 _ _ p2)
      have sm5 : SmP p c H H5 := fun b u n1 n2 e => sm3 _ _ n1 n2 (sa2 _ _ (sm12 _ _ n1 n2 e))
      have r5 : H5 l = some (.lst ws) := lift _ _ hl hl1
      have ls5 : Lsts (fun b => H b = none ∧ b ≠ l) H5 ws rs := hls.keep (fun b xs o e => lift _ _ o.1 e) (fun _ _ o _ => o)
      have fin5 : ∀ H' ra rows, Same H5 H' → Rows H' ra rows → Good rows n → Q (.ref ra) H' := fun H' ra rows s a b => q H' ra rows (fun b u n1 n2 e => s _ _ (sm5 _ _ n1 n2 e)) (pl5.at (fun u e => s _ _ e) (fun u e => s _ _ e)) a b
      generalize hrs : rs = rs5 at ls5 g5
      generalize hro : l = ro at r5
      refine ⟨_, rfl, o, rfl, ⟨_, SqL.of o5⟩, fun D hD => ?_⟩
      refine lc_same walk_list hD (fun j acc H => ∃ rows : List (List Nat), Tups H acc (rows.map fun (r : List Nat) => r.map iV) ∧ rows.length = j ∧ ∀ (i k : Nat) (r' : List Nat), od[i]? = some k → rows[i]? = some r' → Asc r' ∧ r'.Perm ((rowOf rs5 k).map fun x => pls.getD x 0)) (by rw [List.length_map, pm_len hod]; exact small1000 (by omega)) (fun H' k => SqL.of (k _ _ o5)) (fun i acc H H' ys hd k ⟨rows, a, b⟩ => ⟨rows, Tups.x a k (fun xs z => by rw [hd] at z; cases z), b⟩) ⟨[], .nil, rfl, fun i k r' _ z => nomatch z⟩ ?_ ?_
      · rintro j v H6 H' acc Fin Skip hj hla k ⟨rows, rt, rl, rm⟩ ⟨rfl, yy⟩ fin skip
        obtain ⟨x, hx, rfl⟩ := map_at yy
        have hxn := pm_mem hod (List.mem_of_getElem? hx)
        obtain ⟨r, hr⟩ : ∃ r, rs5[x]? = some r := ⟨_, List.getElem?_eq_getElem (by rw [g5.len]; exact hxn)⟩
        obtain ⟨v5, hv5, b, rfl, _, hb⟩ := Paired.at ls5 hr
        obtain ⟨ra, rx⟩ := g5.row r (List.mem_of_getElem? hr)
        have hrl : r.length ≤ n := by
          have := nodup_len (Asc.nodup ra) (k := List.range n) (fun y hy => List.mem_range.mpr (rx y hy))
          rwa [List.length_range] at this
        refine ⟨rfl, _, rfl, _, rfl, ro, _, _, _, rfl, rfl, SqL.of (k _ _ r5), atI_nat hv5, b, rfl, ⟨_, SqL.of (k _ _ hb)⟩, fun D2 hD2 => ?_⟩
        refine lc_same walk_list hD2 (fun i acc2 _ => acc2 = (r.take i).map fun y => iV (pls.getD y 0)) (by rw [List.length_map]; exact small1000 (by omega)) (fun H' k2 => SqL.of (k2 _ _ (k _ _ hb))) (fun _ _ _ _ _ _ _ h => h) rfl ?_ ?_
        · rintro i v H7 H'' acc2 Fin2 Skip2 hi2 hla2 k2 rr ⟨rfl, yy2⟩ fin2 skip2
          obtain ⟨y, hy, rfl⟩ := map_at yy2
          have hyn := rx y (List.mem_of_getElem? hy)
          refine ⟨rfl, _, rfl, _, rfl, pl, _, _, _, rfl, rfl, SqL.of (k2 _ _ (k _ _ p5)), atI_nat (by rw [List.getElem?_map, pm_get hpl hyn]; rfl), fin2 _ _ (Same.refl _) ?_⟩
          rw [rr, take_snoc hy, List.map_append]; rfl
        · intro H7 acc2 k2 hla2 hacc2 rr2
          rw [List.length_map, List.take_length] at rr2
          refine ⟨D2, (r.map fun y => pls.getD y 0).map fun (n : Nat) => (n : Int), rfl, SqL.of (by rw [hacc2, rr2, List.map_map, List.map_map]; rfl), by rw [List.length_map, List.length_map]; omega, fun ms sp hperm hpw hsp => ?_⟩
          obtain ⟨ms, rfl, hpm⟩ := nat_list hperm
          have sn := Same.new (o := .lst ((ms.map fun (n : Nat) => (n : Int)).map V.int)) hsp
          have hnd : (r.map fun y => pls.getD y 0).Nodup := List.pairwise_map.mpr (List.Pairwise.imp_of_mem (fun {a b} ha hb hab z => hab (pm_inj hpl (rx a ha) (rx b hb) z)) (Asc.nodup ra))
          refine ⟨sp, _, rfl, .inl ⟨SqL.of upd_same, fun tp htp => fin _ _ (Same.trans k2 (Same.trans sn (Same.new htp))) ⟨rows ++ [ms], ?_, by rw [List.length_append, rl]; rfl, fun i k' r' e1 e2 => ?_⟩⟩⟩
          · rw [List.map_append]
            exact Tups.snoc (((rt.same k2).same sn).same (Same.new htp)) (by rw [upd_same, List.map_map]; rfl)
          · rcases Nat.lt_or_ge i j with z | z
            · rw [List.getElem?_append_left (by omega)] at e2
              exact rm i k' r' e1 e2
            · have hij : i = j := by
                have := (List.getElem?_eq_some_iff.mp e2).1
                rw [List.length_append, rl] at this
                have : i < j + 1 := this
                omega
              subst hij
              rw [List.getElem?_append_right (by omega), rl, Nat.sub_self] at e2
              cases e2
              rw [hx] at e1
              cases e1
              rw [rowOf_eq hr]
              exact ⟨asc_of_le hpw (hpm.nodup_iff.mpr hnd), hpm⟩
      · rintro H6 acc k hla hacc ⟨rows, rt, rl, rm⟩
        rw [List.length_map, pm_len hod] at rl
        refine ⟨D, acc, rfl, .inl ⟨SqL.of hacc, fun tp htp => ?_⟩⟩
        exact fin5 _ tp rows (Same.trans k (Same.new htp)) ⟨acc, upd_same, rt.same (Same.new htp)⟩ (g5.ren hpl hod rl rm)
end
end Fo
end
section
set_option Elab.async false
set_option linter.all false
set_option maxRecDepth 100000
set_option maxHeartbeats 8000000
set_option pp.maxSteps 900
/-! In an except suite: a comprehension over a list of truths, isinstance of the caught error whether it has a dict or none. -/
namespace Fo
open PySem PySem.Spec PyProof.Rows L2 LamX NdefX HotX
section
variable {prog : Program} {w : World} {A : Around} {E : Value → Shared → Prop} {s : Shared}
/-- a list's iterator at its end, while x1 is handled -/
theorem list_end_hot {x1 it l : Addr} {i : Nat} {items : Array Value} {Q : Option Value → Shared → Prop} (hot : HotAt A x1 s.heap) (nx : x1 ≠ it) (hit : s.heap.IsListIter it l i) (hl : s.heap.IsList l items) (hx : items[i]? = none)
    (hQ : ∀ h' : Heap, (∀ b o, b ≠ it → s.heap.get? b = some o → h'.get? b = some o) → Q none { s with heap := h' }) : wpAny (model prog w) A (pyNext (.ref it)) Q E s := by
  have ⟨hh, o1, vs1, h1, d1, c1⟩ := hot
  have ⟨o, ho, hc, hd⟩ := hit
  have ⟨ol, hol, _, nl, hdl⟩ := hl
  unfold pyNext
  refine wpAny_bind (wpAny_attempt (wpAny_callSpecial?_slot (name := Str.ofString "__next__") hit.typeIs slot_listiter_next (wpAny_call_entry slot_listiter_next hit.typeIs entry_listiter_next ?_ (args_listiter_next _))))
  show wpAny _ _ (field (.ref it) 0 >>= _) _ _ s; refine wpAny_bind (wpAny_field ho hd (x := .ref l) rfl ?_)
  show wpAny _ _ (if (Value.ref l == Value.none) = true then _ else _) _ _ s; rw [if_neg (show ¬ ((Value.ref l == Value.none) = true) from Bool.false_ne_true)]
  show wpAny _ _ (field (.ref it) 1 >>= _) _ _ s; refine wpAny_bind (wpAny_field ho hd (x := .int i 0) rfl ?_)
  show wpAny _ _ (seqItems? (.ref l) >>= _) _ _ s; refine wpAny_bind (wpAny_seqItems hol hdl ?_)
  simp only [Int.toNat_natCast, hx]; refine wpAny_bind (wpAny_rule (wpAny_bind (wpAny_setField ho hd (by simp) ?_)))
  show wpAny _ _ (newExc (.type "StopIteration") [] >>= _) _ _ _; refine wpAny_bind ?_
  simp only [newExc, newTuple]; refine wpAny_bind (wpAny_newObj_type ?_ (by size_fits))
  refine wpAny_bind (m := firstArgMember _ _) (wpAny_of_eq (a := Value.none) (by first | rfl | (simp only [firstArgMember]; rfl)) (wpAny_newObj_type ?_ (by size_fits)))
  refine raiseNew_hot ⟨hh, o1, vs1, Heap.get?_push_of_some _ (Heap.get?_push_of_some _ ((Heap.get?_update_other _ _ nx.symm).trans h1)), d1, c1⟩ (Nat.ne_of_lt (Heap.lt_size (Heap.get?_push_of_some _ ((Heap.get?_update_other _ _ nx.symm).trans h1)))) (Heap.get?_push_size _ rfl) rfl (by simp only [Array.size_append]; simp; omega) ?_
  refine wpAny_bind (wpAny_isInstance (T := "StopIteration") (b := true) ⟨_, Heap.get?_update_self _ (Heap.get?_push_size _ rfl) rfl, rfl⟩ isSubtype_stop (wpAny_pure (hQ _ fun b o nb e => ?_)))
  have e1 : (s.heap.update it (Obj.mapFields fun x => x.setIfInBounds 0 Value.none)).get? b = some o := (Heap.get?_update_other s.heap _ nb.symm).trans e
  exact (Heap.get?_update_other _ _ (Nat.ne_of_gt (Heap.lt_size (Heap.get?_push_of_some _ e1)))).trans (Heap.get?_push_of_some _ (Heap.get?_push_of_some _ e1))
end
/-- a walk over a list while x1 is handled -/
theorem walks_hot {prog : Program} {w : World} {A : Around} {x1 I l : Addr} {items : Array Value} (n1 : l ≠ I) (n2 : x1 ≠ I) :
    Walks prog w A I [I, l, x1] [I] items.size (fun i v => items[i]? = some v) (fun i h => h.IsListIter I l i ∧ h.IsList l items ∧ HotAt A x1 h) where
  sub b hb := by rw [List.mem_singleton.mp hb]; exact List.mem_cons_self
  frame i h h' st k := by
    obtain ⟨a, b, c, o, vs, e, d⟩ := st
    exact ⟨a.at fun o e => k I List.mem_cons_self o e, b.at fun o e => k l (by simp) o e, c, o, vs, k x1 (by simp) _ e, d⟩
  item i s Q E hi st q := by
    obtain ⟨a, b, c, o, vs, e, d⟩ := st
    refine wpAny_pyNext_list_item a b (x := items[i]) (by simp [hi]) fun h' a' sb => q _ h' s.toks (by simp [hi]) ⟨a', b.extBut sb.extBut n1, c, o, vs, sb.extBut _ _ n2 e, d⟩ fun b o nb e => sb.extBut _ _ (fun z => nb (by rw [z]; exact List.mem_cons_self)) e
  done s Q E st q := list_end_hot st.2.2 n2 st.1 st.2.1 (by simp) fun h' k => q h' s.toks fun b o nb e => k b o (fun z => nb (by rw [z]; exact List.mem_cons_self)) e
  self i s Q E st q := wpAny_pyIter_listiter st.1 q
/-- the truths that hold -/
def vB : Value → Bool
  | .bool b => b
  | _ => false
theorem vals_bools : ∀ {bs : List Bool} {us : List Value}, Vals (bs.map V.bl) us → us = bs.map Value.bool
  | [], _, h => by cases h; rfl
  | b :: bs, _, h => by
    cases h with
    | cons a t =>
      rw [vals_bools t]
      cases (show _ = Value.bool b from a)
      rfl
theorem bools_filter : ∀ bs : List Bool, (bs.map Value.bool).filter vB = (bs.filter id).map Value.bool
  | [] => rfl
  | true :: bs => congrArg (Value.bool true :: ·) (bools_filter bs)
  | false :: bs => bools_filter bs
theorem paired_eq {l k : List Value} (h : Paired (fun v y => y = v) l k) : k = l := by
  induction h with
  | nil => rfl
  | cons a _ ih => rw [a, ih]
theorem bools_vals : ∀ bs : List Bool, Vals (bs.map V.bl) (bs.map Value.bool)
  | [] => .nil
  | b :: bs => .cons rfl (bools_vals bs)
/-- [x for x in y if x], y in slot i a list of truths -/
def tLcF (i : Nat) : TE := fun σ H Q => ∃ (l : Addr) (bs : List Bool), σ[i]? = some (some (.ref l)) ∧ H l = some (.lst (bs.map V.bl)) ∧ bs.length ≤ 100 ∧ ∀ D, H D = none → Q (.ref D) (upd H D (.lst ((bs.filter id).map V.bl)))
theorem pe_lcF {X : Cx} {x y : Str} {p1 p2 p3 p4 pos : Pos} {scope : Scope} {i : Nat} (hot : L2H.HotC X) (hi : PE X (.Name y p3) (tVar i)) (hcell : ∀ z ∈ scope.names, z.2 ≠ .cell) (hfree : ∀ z ∈ scope.names, z.2 ≠ .free) (hkind : scope.kind = .function)
    (hnames : ∀ z ∈ scope.names, z.2 = .local → scope.names.lookup z.1 = some .local) (hx : scope.names.lookup x = some .local) (hd : (x == ("__debug__" : Str)) = false) (hs : ∀ v, foldedSetIterable (.Name y p3) X.env v = pure v := by intro _; rfl) :
    PE X (.ListComp (.Name x p1) [⟨.Name x p2, .Name y p3, [.Name x p4], 0⟩] scope pos) (tLcF i) := by
  refine ⟨fun pins s σ H Q I h => ?_⟩
  obtain ⟨l, bs, hsl, hl, hb, q⟩ := h
  refine wpAny_ListComp_free vB (fun v y => y = v) (closure_ok (fun z hz e => absurd e (hfree z hz))) hcell hkind hnames hx (thn (hi.run pins s σ H (fun v H1 => v = .ref l ∧ H1 = H) I ⟨_, hsl, rfl, rfl⟩) fun u s1 ⟨v, H1, I1, r1, ev, eH⟩ => ?_) hs
  subst ev eH
  obtain rfl : u = Value.ref l := r1
  obtain ⟨its, rv, hit, hz⟩ := I1.list (SqL.of (K := X.K) hl)
  obtain ⟨x1, ht⟩ := hot.at I1
  have eits := vals_bools rv
  have hlt : l < s1.heap.objs.size := by obtain ⟨o, ho, _⟩ := hit.isList; exact Heap.lt_size ho
  have xlt : x1 < s1.heap.objs.size := by obtain ⟨_, o, _, ho, _⟩ := ht; exact Heap.lt_size ho
  have n1 : l ≠ s1.heap.objs.size := Nat.ne_of_lt hlt
  have n2 : x1 ≠ s1.heap.objs.size := Nat.ne_of_lt xlt
  have hsz : its.toArray.size = bs.length := by rw [List.size_toArray, eits, List.length_map]
  refine wpAny_pyIter_list hit.isList ⟨s1.heap.objs.size, [s1.heap.objs.size, l, x1], [s1.heap.objs.size], its.toArray.size, _, _, rfl, walks_hot n1 n2, by rw [hsz, sizeLine_eq]; omega, ⟨⟨_, Heap.get?_push_size _ rfl, rfl, rfl⟩, hit.isList.push _, ?_⟩, ?_, ⟨?_, ?_⟩, ?_⟩
  · obtain ⟨c, o, vs, e, d⟩ := ht
    exact ⟨c, o, vs, Heap.get?_push_of_some _ e, d⟩
  · intro b hb
    show b < (s1.heap.push _).objs.size
    rw [Heap.size_push]
    rcases List.mem_cons.mp hb with rfl | hb
    · exact Nat.lt_succ_self _
    · rcases List.mem_cons.mp hb with rfl | hb
      · exact Nat.lt_succ_of_lt hlt
      · rw [List.mem_singleton.mp hb]; exact Nat.lt_succ_of_lt xlt
  · intro C j v s3 m3 E' _ hv hn hm _ _
    have hv' : (bs.map Value.bool)[j]? = some v := by rw [← eits, ← List.getElem?_toArray]; exact hv
    obtain ⟨b, _, rfl⟩ := map_at hv'
    refine wpAny_tests_one (isTrue_plain ?_)
    rw [eval_Name _ _ _ hd]
    exact wpAny_bind (wpAny_standAt (wpAny_loadName_local hkind (lookup_relabel_local hx) hn hm (wpAny_truthy_bool ⟨rfl, s3.heap, _, rfl, fun _ _ e => e⟩)))
  · intro C j v s3 m3 E' _ hv _ hn hm _ _
    rw [eval_Name _ _ _ hd]
    exact wpAny_bind (wpAny_standAt (wpAny_loadName_local hkind (lookup_relabel_local hx) hn hm ⟨rfl, s3.heap, _, rfl, fun _ _ e => e⟩))
  · intro D h' tk ys vs hD hys hpl hlen hP hF hk
    have hD1 : s1.heap.get? D = none := by
      rcases hq : s1.heap.get? D with _ | o
      · rfl
      · have := Heap.get?_push_of_some { cls := .type "list_iterator", data := .fields #[.ref l, .int 0 0] } hq
        rw [this] at hD; cases hD
    have hDn := I1.hok.gone hD1
    have evs : vs = bs.map Value.bool := by
      refine List.ext_getElem? fun j => ?_
      rcases hj : vs[j]? with _ | v
      · have : vs.length ≤ j := List.getElem?_eq_none_iff.mp hj
        rw [List.getElem?_eq_none_iff.mpr (by rw [List.length_map]; omega)]
      · have := hP j v hj
        rw [← eits, ← List.getElem?_toArray]; exact this.symm
    have eys : ys.toList = (bs.filter id).map Value.bool := by rw [paired_eq hF, evs, bools_filter]
    obtain ⟨n, hp⟩ := hpl
    refine ⟨.ref D, _, I1.laidN (t' := tk) (a := D) (o := .lst ((bs.filter id).map V.bl)) (fun b u e => hk b u (fun z => ?_) (Heap.get?_push_of_some _ e)) hD1 hDn ?_, rfl, q D hDn⟩
    · have := Heap.lt_size e
      rw [List.mem_singleton.mp z] at this
      exact Nat.lt_irrefl _ this
    · refine ⟨?_, ys.toList, n, by rw [eys]; exact bools_vals _, by rw [Array.toArray_toList]; exact hp⟩
      have := List.length_filter_le id bs
      rw [List.length_map, sizeLine_eq]; omega
end Fo
end
section
set_option Elab.async false
set_option linter.all false
set_option maxRecDepth 100000
set_option maxHeartbeats 8000000
set_option pp.maxSteps 900
/-! The caught error asked for its class. -/
namespace Fo
open PySem PySem.Spec PyProof.Rows L2 LamX NdefX HotX
/-- isinstance(e, c), e the caught error, of the class D, with or without a dict -/
def rIsD (K : PySem.W.Frag) (D a : Addr) (d : Option Addr) : List V → Hp → VK → Prop := fun xs H Q => ∃ (c : V) (cv : Value) (b : Bool), xs = [.ref a, c] ∧ (∀ u, RelV c u → u = cv) ∧ PySem.W.kitOne K (.ref D) cv = some b ∧ (∀ dd, d = some dd → ∃ fs, H dd = some (.xd fs)) ∧ Q (.bl b) H
theorem call_isD {X : Cx} {a D : Addr} {d : Option Addr} {oe : Obj} {pn : List (Addr × Obj)} (C : ExcC X.K D) (hz : Zc (.ref D) d oe) (hf : ∃ vs, oe.data = .fields vs) : CallR (X.suite a ((a, oe) :: pn)) (.builtin "isinstance") (rIsD X.K D a d) := by
  intro pins s σ H xs us Q I r h
  obtain ⟨c, cv, b, rfl, hcv, e, hd, q⟩ := h
  obtain ⟨u1, u2, rfl, r1, r2⟩ : ∃ u1 u2, us = [u1, u2] ∧ RelV (.ref a) u1 ∧ RelV c u2 := by
    cases r with
    | cons a t =>
      cases t with
      | cons b t =>
        cases t
        exact ⟨_, _, rfl, a, b⟩
  obtain rfl : u1 = Value.ref a := r1
  obtain rfl := hcv _ r2
  have hget := (I.pin (a, oe) (List.mem_append.mpr (.inl List.mem_cons_self))).1
  obtain ⟨vs, hv⟩ := hf
  obtain ⟨cd, hcl, _⟩ := PySem.W.any_some C.hd
  have J : ∃ od, PySem.W.InstAt s.heap a oe D od := by
    obtain ⟨oc, odd, oda, osl⟩ := oe
    obtain ⟨h1, h2⟩ := hz
    dsimp only at h1 h2 hv
    subst h1 h2 hv
    cases odd with
    | none => exact ⟨none, hget, rfl, rfl, trivial⟩
    | some dd =>
      obtain ⟨fs, ed⟩ := hd dd rfl
      have hx : ObjOk X.prog X.w H s.heap dd (.xd fs) := I.hok dd _ ed
      obtain ⟨mA, hns, hr⟩ := hx
      obtain ⟨od, ho, hl⟩ := lookIn_ns hns
      exact ⟨some od, hget, rfl, rfl, ho⟩
  obtain ⟨od, J⟩ := J
  exact PySem.W.kia_one (PySem.W.kitx_exc (by rw [hcl]; rfl) C.hg C.hk C.hs C.ha C.hn C.ht C.hm) I.kIn J e (fun z => nomatch z) fun tk => ⟨.bl b, H, I.kept (t' := tk) fun _ _ z => z, rfl, q⟩
/-- the same, the class told in the reading -/
def rIsC (K : PySem.W.Frag) (cls : Value) (a : Addr) (d : Option Addr) : List V → Hp → VK → Prop := fun xs H Q => ∃ D, cls = .ref D ∧ ExcC K D ∧ rIsD K D a d xs H Q
theorem call_isC {X : Cx} {a : Addr} {cls : Value} {d : Option Addr} {oe : Obj} {pn : List (Addr × Obj)} (hz : Zc cls d oe) (hf : ∃ vs, oe.data = .fields vs) : CallR (X.suite a ((a, oe) :: pn)) (.builtin "isinstance") (rIsC X.K cls a d) := by
  intro pins s σ H xs us Q I r h
  obtain ⟨D, rfl, C, h⟩ := h
  exact call_isD C hz hf pins s σ H xs us Q I r h
/-- e.n, n in the caught error's dict -/
def tXfC (K : PySem.W.Frag) (a : Addr) (cls : Value) (d : Option Addr) (n : Str) (te : TE) : TE := fun σ H Q => ∃ C, cls = .ref C ∧ XfC K C ∧ PySem.W.findIn K (.ref C) n = some none ∧ tXf a cls d C n te σ H Q
theorem pe_xfC {X : Cx} {a : Addr} {oe : Obj} {cls : Value} {d : Option Addr} {pn : List (Addr × Obj)} {e : Expr} {te : TE} {pos : Pos} {n : Str} (hz : Zc cls d oe) (hf : ∃ vs, oe.data = .fields vs) (he : PE (X.suite a ((a, oe) :: pn)) e te) (hb : attributeBase e n X.env (eval e X.env) = eval e X.env := by rfl) :
    PE (X.suite a ((a, oe) :: pn)) (.Attribute e n pos) (tXfC X.K a cls d n te) := ⟨fun pins s σ H Q I ⟨C, ec, T, hno, h⟩ => (pe_xf T hno hz hf he hb).run pins s σ H Q I h⟩
theorem call_isCK {X : Cx} {K : PySem.W.Frag} {a : Addr} {cls : Value} {d : Option Addr} {oe : Obj} {pn : List (Addr × Obj)} (hz : Zc cls d oe) (hf : ∃ vs, oe.data = .fields vs) (hk : X.K = K := by rfl) : CallR (X.suite a ((a, oe) :: pn)) (.builtin "isinstance") (rIsC K cls a d) := by subst hk; exact call_isC hz hf
theorem pe_xfCK {X : Cx} {K : PySem.W.Frag} {a : Addr} {oe : Obj} {cls : Value} {d : Option Addr} {pn : List (Addr × Obj)} {e : Expr} {te : TE} {pos : Pos} {n : Str} (hz : Zc cls d oe) (hf : ∃ vs, oe.data = .fields vs) (he : PE (X.suite a ((a, oe) :: pn)) e te) (hk : X.K = K := by rfl) (hb : attributeBase e n X.env (eval e X.env) = eval e X.env := by rfl) :
    PE (X.suite a ((a, oe) :: pn)) (.Attribute e n pos) (tXfC K a cls d n te) := by subst hk; exact pe_xfC hz hf he hb
theorem mt_indexK {X : Cx} {K : PySem.W.Frag} (hk : X.K = K := by rfl) : MtR X "list.index" (rIndex K) := by subst hk; exact mt_index
theorem takesN {X : Cx} : L2N.Takes X (fun _ _ _ _ => False) := fun _ _ x => let ⟨_, _, _, _, _, _, _, _, _, _, _, _, _, _, _, _, z⟩ := x; z.elim
theorem hot_suite {X : Cx} {a : Addr} {oe : Obj} {cls : Value} {d : Option Addr} {pn : List (Addr × Obj)} (hz : L2N.Zn cls d oe) (hf : ∃ vs, oe.data = .fields vs) : L2H.HotC (X.suite a ((a, oe) :: pn)) :=
  let ⟨vs, e⟩ := hf
  ⟨(a, oe), ⟨rfl, vs, e, hz.2.2 vs e⟩, List.mem_cons_self⟩
/-- what is known of an own error's class -/
structure OneX (K : PySem.W.Frag) (x : Str) (b1 b2 b3 : Bool) : Prop where
  drw : PySem.W.exmOne K (.ref (He.ga K x)) (.ref (He.ga K "DrawError")) = some true
  isc : ExcC K (He.ga K x)
  xfc : XfC K (He.ga K x)
  most : PySem.W.findIn K (.ref (He.ga K x)) "most" = some none
  ve : PySem.W.kitOne K (.ref (He.ga K x)) (.type "ValueError") = some true
  nt : PySem.W.kitOne K (.ref (He.ga K x)) (.ref (He.ga K "NoTurn")) = some b1
  st : PySem.W.kitOne K (.ref (He.ga K x)) (.ref (He.ga K "Stuck")) = some b2
  tm : PySem.W.kitOne K (.ref (He.ga K x)) (.ref (He.ga K "TooMany")) = some b3
  nn : PySem.W.kitOne K (.ref (He.ga K x)) (.ref (He.ga K "NoNumber")) = some false
structure Ht (K : PySem.W.Frag) : Prop where
  nt : OneX K "NoTurn" true false false
  st : OneX K "Stuck" false true false
  tm : OneX K "TooMany" false false true
end Fo
end
section
set_option Elab.async false
set_option linter.all false
set_option maxRecDepth 100000
set_option maxHeartbeats 8000000
set_option pp.maxSteps 900
namespace Fo
open PySem PySem.Spec PyProof.Rows L2 LamX NdefX
theorem turnAt_same {H H' : Hp} {x : V} {n : Nat} {t : List Nat} (h : TurnAt H x n t) (k : Same H H') : TurnAt H' x n t := let ⟨a, e, z, w⟩ := h; ⟨a, e, k _ _ z, w⟩
theorem noAll_same {H H' : Hp} {x : V} {n : Nat} (h : NoAll H x n) (k : Same H H') : NoAll H' x n := by
  refine ⟨h.1.same k, fun a xs e1 e2 => ?_⟩
  subst e1
  rcases h.1 with ⟨ys, e⟩ | ⟨ys, e⟩
  · have e3 := k _ _ e
    rw [e2] at e3
    cases e3
    obtain ⟨h1, h2⟩ := h.2 a xs rfl e
    exact ⟨fun y hy => (h1 y hy).same k, h2⟩
  · have e3 := k _ _ e
    rw [e2] at e3
    cases e3
def spTold (K : PySem.W.Frag) : Sp := fun vs H Q _ => ∃ (tb : Addr) (rows : List (List Nat)) (x : V), vs = [.ref tb, x] ∧ Tab K H tb rows ∧ rows.length ≤ 12 ∧ Sml rows ∧
  ((NoAll H x rows.length ∧ ∀ H' p, Same H H' → H' p = some (.tup [.str "turn", .int 0]) → Q (.ref p) H') ∨
    (∃ t, TurnAt H x rows.length t ∧ ¬ Deal rows ∧ ∀ H' p, Same H H' → H' p = some (.tup [.str "stuck", .int 0]) → Q (.ref p) H') ∨
    (∃ t, TurnAt H x rows.length t ∧ Deal rows ∧ 6 < rows.length ∧ ∀ H' p, Same H H' → H' p = some (.tup [.str "many", .int 6]) → Q (.ref p) H'))
section
variable {P : Program} {w : World} {K : PySem.W.Frag} {mg : Str → Option Value} {base : Heap}
theorem D_law_told (T : Hd K mg) (TX : Hx K mg) (TT : Ht K) (DM : ∀ {w : World} {base : Heap}, Fn P w K mg base (L2N.CX P w) 3 "check_many" (spManyC K)) : Fn P w K mg base CX0 19 "_law_told" (spTold K) := by
  have D_even_sides := fun {w base} => D_even_sides (P := P) (w := w) (base := base) T TX DM
  obtain ⟨fd, F⟩ := T.d_law_told
  refine ⟨T.g_law_told, T.p_law_told, fd, ["_law_table", "_law_turn"], ?_, FunD.bindsN F fun _ _ _ _ _ _ us hl => match us, hl with | [_, _], _ => rfl⟩
  refine F.ok sc_law_told (fun vs H Q E h => ?_) (fun cdv A outer s H vs Q E hr h => ⟨_, (have hu := hu_of hr; (pss_cons (ps_set (i := 2) sc_law_told.nd rfl (.inl rfl) (pe_tup (pa_cons pe_str (pa_cons pe_int pa_nil))))
      (pss_cons (L2N.ps_try_as (i := 3) rfl rfl sc_law_told.nd rfl rfl ⟨rfl, by decide, .inl T.g_DrawError⟩ takesN (fun W pn xe tk _ => (pss_one (ps_expr (pe_fnS D_even_sides (hr.mono (by first | decide | omega)) rfl (fun σ => L2N.passAt tk σ) (pa_cons (pv 0) (pa_cons (pv 1) pa_nil)))))) (fun a oe cls d pn hz hf => (pss_cons (ps_set (i := 4) sc_law_told.nd rfl (.inl rfl) (pe_lst (pa_cons (pe_callB (call_isCK (K := K) (L2N.Zn.zc hz) hf) rfl T.f_isinstance bt_isinstance (pa_cons (pv 3) (pa_cons (pe_glob (v := .ref (He.ga K "NoTurn")) rfl T.g_NoTurn rfl) pa_nil))) (pa_cons (pe_callB (call_isCK (K := K) (L2N.Zn.zc hz) hf) rfl T.f_isinstance bt_isinstance (pa_cons (pv 3) (pa_cons (pe_glob (v := .ref (He.ga K "Stuck")) rfl T.g_Stuck rfl) pa_nil))) (pa_cons (pe_callB (call_isCK (K := K) (L2N.Zn.zc hz) hf) rfl T.f_isinstance bt_isinstance (pa_cons (pv 3) (pa_cons (pe_glob (v := .ref (He.ga K "TooMany")) rfl T.g_TooMany rfl) pa_nil))) (pa_cons (pe_callB (call_isCK (K := K) (L2N.Zn.zc hz) hf) rfl T.f_isinstance bt_isinstance (pa_cons (pv 3) (pa_cons (pe_glob (v := .ref (He.ga K "NoNumber")) rfl T.g_NoNumber rfl) pa_nil))) pa_nil))))))
        (pss_cons (ps_set (i := 2) sc_law_told.nd rfl (.inl rfl) (pe_tup (pa_cons pe_str (pa_cons pe_int pa_nil))))
        (pss_cons (ps_if (PW.pt (pw_and (pt_cmpR op_eq (pe_callB (call_lenK (K := K)) rfl T.f_len bt_len (pa_cons (pe_lcF (hot_suite hz hf) (pv 4) (by decide +kernel) (by decide +kernel) rfl (by decide +kernel) rfl (by decide)) pa_nil)) pe_int (nomark _)) (pw_and1 (pt_val (pe_callB (call_isCK (K := K) (L2N.Zn.zc hz) hf) rfl T.f_isinstance bt_isinstance (pa_cons (pv 3) (pa_cons (pe_bltn (v := .ty "ValueError") rfl T.f_ValueError bt_ValueError rfl) pa_nil)))))))
          (pss_one (ps_set (i := 2) sc_law_told.nd rfl (.inl rfl) (pe_tup (pa_cons (pe_ix (ix_listK (K := K)) (pe_lst (pa_cons pe_str (pa_cons pe_str (pa_cons pe_str (pa_cons pe_str pa_nil))))) (pe_bmK (K := K) PySem.F.plainAttrs_list PySem.F.slot_list_index PySem.F.type_list_index mt_indexK (pv 4) (pa_cons pe_bl pa_nil)) (fun _ _ => rfl)) (pa_cons pe_int pa_nil)))))
          pss_nil)
        (pss_one (ps_if (pt_cmpR op_eq (pe_ix (ix_tupK (K := K)) (pv 2) pe_int (fun _ _ => rfl)) pe_str (nomark _))
          (pss_one (ps_set (i := 2) sc_law_told.nd rfl (.inl rfl) (pe_tup (pa_cons pe_str (pa_cons (pe_xfCK (K := K) (L2N.Zn.zc hz) hf (pv 3)) pa_nil)))))
          pss_nil)))))))
      (pss_one (ps_ret (pv 2)))))), ?_⟩)
  · obtain ⟨_, _, _, rfl, _⟩ := h; rfl
  · obtain ⟨tb, rows, x, rfl, htb, h12, hsm, h⟩ := h
    refine ⟨sz2, fun t0 ht0 => ?_⟩
    have s0 := Same.new (o := .tup [.str "let", .int 0]) ht0
    refine ⟨_, rfl, _, rfl, tb, rows, x, rfl, htb.same s0, h12, hsm, ?_⟩
    rcases h with ⟨hno, q⟩ | ⟨t, htt, hnd, q⟩ | ⟨t, htt, hde, h6, q⟩
    · refine .inr (.inl ⟨noAll_same hno s0, fun H1 s1 => ⟨true, TT.nt.drw, fun _ a ha => ?_, fun z => nomatch z⟩⟩)
      refine ⟨_, rfl, He.ga K "NoTurn", rfl, TT.nt.isc, _, _, _, rfl, (fun u r => r), TT.nt.nt, (fun dd z => nomatch z), _, rfl, He.ga K "NoTurn", rfl, TT.nt.isc, _, _, _, rfl, (fun u r => r), TT.nt.st, (fun dd z => nomatch z), _, rfl, He.ga K "NoTurn", rfl, TT.nt.isc, _, _, _, rfl, (fun u r => r), TT.nt.tm, (fun dd z => nomatch z), _, rfl, He.ga K "NoTurn", rfl, TT.nt.isc, _, _, _, rfl, (fun u r => r), TT.nt.nn, (fun dd z => nomatch z), (show 4 ≤ sizeLine by rw [sizeLine_eq]; omega), fun fl hfl => ?_⟩
      have ka := Same.new (o := .lst ([true, false, false, false].map V.bl)) hfl
      refine ⟨sz2, fun t1 ht1 => ?_⟩
      have kb := Same.new (o := .tup [.str "other", .int 0]) ht1
      have hfb := kb _ _ (upd_same (H := H1) (a := fl) (o := .lst ([true, false, false, false].map V.bl)))
      have sb : Same H1 _ := Same.trans ka kb
      generalize eHb : upd (upd H1 fl _) t1 _ = Hb at hfb
      have sb : Same H1 Hb := by rw [← eHb]; exact sb
      clear eHb
      refine ⟨fl, [true, false, false, false], rfl, hfb, by decide, fun D hD => ⟨_, _, rfl, .inl ⟨_, SqL.of upd_same, rfl⟩, rfl, true, congrArg V.bl (decide_eq_true rfl), iteT ?_⟩⟩
      have kc := Same.new (o := .lst (([true, false, false, false].filter id).map V.bl)) hD
      have sc : Same H1 _ := Same.trans sb kc
      have hfc := kc _ _ hfb
      generalize eHc : upd Hb D _ = Hc at hfc
      have sc : Same H1 Hc := by rw [← eHc]; exact sc
      clear eHc
      refine ⟨_, rfl, He.ga K "NoTurn", rfl, TT.nt.isc, _, _, _, rfl, (fun u r => r), TT.nt.ve, (fun dd z => nomatch z), true, rfl, iteT ⟨(show 4 ≤ sizeLine by rw [sizeLine_eq]; omega), fun sl hsl => ?_⟩⟩
      have kd := Same.new (o := .lst [V.str "turn", .str "stuck", .str "many", .str "number"]) hsl
      refine ⟨_, rfl, .inl ⟨rfl, _, SqL.of (kd _ _ hfc)⟩, fl, _, .bl true, 0, .bl true, rfl, rfl, SqL.of (kd _ _ hfc), rfl, by decide, rfl, by decide, fun m z' hm e => ?_, ?_⟩
      · exact absurd hm (Nat.not_lt_zero _)
      refine ⟨sl, _, _, _, rfl, rfl, SqL.of upd_same, rfl, sz2, fun t2 ht2 => ?_⟩
      have ke := Same.new (o := .tup [.str "turn", .int 0]) ht2
      have se := Same.trans sc (Same.trans kd ke)
      refine ⟨_, rfl, t2, _, _, _, rfl, rfl, SqT.of upd_same, rfl, rfl, false, congrArg V.bl (decide_eq_false fun z => ?_), iteF ⟨_, rfl, q _ t2 (Same.trans s0 (Same.trans s1 se)) upd_same⟩⟩
      injection z with z
      exact absurd z (by decide)
    · refine .inr (.inr (.inl ⟨t, turnAt_same htt s0, hnd, fun H1 s1 => ⟨true, TT.st.drw, fun _ a ha => ?_, fun z => nomatch z⟩⟩))
      refine ⟨_, rfl, He.ga K "Stuck", rfl, TT.st.isc, _, _, _, rfl, (fun u r => r), TT.st.nt, (fun dd z => nomatch z), _, rfl, He.ga K "Stuck", rfl, TT.st.isc, _, _, _, rfl, (fun u r => r), TT.st.st, (fun dd z => nomatch z), _, rfl, He.ga K "Stuck", rfl, TT.st.isc, _, _, _, rfl, (fun u r => r), TT.st.tm, (fun dd z => nomatch z), _, rfl, He.ga K "Stuck", rfl, TT.st.isc, _, _, _, rfl, (fun u r => r), TT.st.nn, (fun dd z => nomatch z), (show 4 ≤ sizeLine by rw [sizeLine_eq]; omega), fun fl hfl => ?_⟩
      have ka := Same.new (o := .lst ([false, true, false, false].map V.bl)) hfl
      refine ⟨sz2, fun t1 ht1 => ?_⟩
      have kb := Same.new (o := .tup [.str "other", .int 0]) ht1
      have hfb := kb _ _ (upd_same (H := H1) (a := fl) (o := .lst ([false, true, false, false].map V.bl)))
      have sb : Same H1 _ := Same.trans ka kb
      generalize eHb : upd (upd H1 fl _) t1 _ = Hb at hfb
      have sb : Same H1 Hb := by rw [← eHb]; exact sb
      clear eHb
      refine ⟨fl, [false, true, false, false], rfl, hfb, by decide, fun D hD => ⟨_, _, rfl, .inl ⟨_, SqL.of upd_same, rfl⟩, rfl, true, congrArg V.bl (decide_eq_true rfl), iteT ?_⟩⟩
      have kc := Same.new (o := .lst (([false, true, false, false].filter id).map V.bl)) hD
      have sc : Same H1 _ := Same.trans sb kc
      have hfc := kc _ _ hfb
      generalize eHc : upd Hb D _ = Hc at hfc
      have sc : Same H1 Hc := by rw [← eHc]; exact sc
      clear eHc
      refine ⟨_, rfl, He.ga K "Stuck", rfl, TT.st.isc, _, _, _, rfl, (fun u r => r), TT.st.ve, (fun dd z => nomatch z), true, rfl, iteT ⟨(show 4 ≤ sizeLine by rw [sizeLine_eq]; omega), fun sl hsl => ?_⟩⟩
      have kd := Same.new (o := .lst [V.str "turn", .str "stuck", .str "many", .str "number"]) hsl
      refine ⟨_, rfl, .inl ⟨rfl, _, SqL.of (kd _ _ hfc)⟩, fl, _, .bl true, 1, .bl true, rfl, rfl, SqL.of (kd _ _ hfc), rfl, by decide, rfl, by decide, fun m z' hm e => ?_, ?_⟩
      · have : m = 0 := by omega
        subst this
        cases e
        rfl
      refine ⟨sl, _, _, _, rfl, rfl, SqL.of upd_same, rfl, sz2, fun t2 ht2 => ?_⟩
      have ke := Same.new (o := .tup [.str "stuck", .int 0]) ht2
      have se := Same.trans sc (Same.trans kd ke)
      refine ⟨_, rfl, t2, _, _, _, rfl, rfl, SqT.of upd_same, rfl, rfl, false, congrArg V.bl (decide_eq_false fun z => ?_), iteF ⟨_, rfl, q _ t2 (Same.trans s0 (Same.trans s1 se)) upd_same⟩⟩
      injection z with z
      exact absurd z (by decide)
    · refine .inr (.inr (.inr ⟨t, turnAt_same htt s0, hde, h6, fun H1 d1 s1 hd1 => ⟨true, TT.tm.drw, fun _ a ha => ?_, fun z => nomatch z⟩⟩))
      refine ⟨_, rfl, He.ga K "TooMany", rfl, TT.tm.isc, _, _, _, rfl, (fun u r => r), TT.tm.nt, (fun dd z => by cases z; exact ⟨_, hd1⟩), _, rfl, He.ga K "TooMany", rfl, TT.tm.isc, _, _, _, rfl, (fun u r => r), TT.tm.st, (fun dd z => by cases z; exact ⟨_, hd1⟩), _, rfl, He.ga K "TooMany", rfl, TT.tm.isc, _, _, _, rfl, (fun u r => r), TT.tm.tm, (fun dd z => by cases z; exact ⟨_, hd1⟩), _, rfl, He.ga K "TooMany", rfl, TT.tm.isc, _, _, _, rfl, (fun u r => r), TT.tm.nn, (fun dd z => by cases z; exact ⟨_, hd1⟩), (show 4 ≤ sizeLine by rw [sizeLine_eq]; omega), fun fl hfl => ?_⟩
      have ka := Same.new (o := .lst ([false, false, true, false].map V.bl)) hfl
      refine ⟨sz2, fun t1 ht1 => ?_⟩
      have kb := Same.new (o := .tup [.str "other", .int 0]) ht1
      have hfb := kb _ _ (upd_same (H := H1) (a := fl) (o := .lst ([false, false, true, false].map V.bl)))
      have sb : Same H1 _ := Same.trans ka kb
      generalize eHb : upd (upd H1 fl _) t1 _ = Hb at hfb
      have sb : Same H1 Hb := by rw [← eHb]; exact sb
      clear eHb
      refine ⟨fl, [false, false, true, false], rfl, hfb, by decide, fun D hD => ⟨_, _, rfl, .inl ⟨_, SqL.of upd_same, rfl⟩, rfl, true, congrArg V.bl (decide_eq_true rfl), iteT ?_⟩⟩
      have kc := Same.new (o := .lst (([false, false, true, false].filter id).map V.bl)) hD
      have sc : Same H1 _ := Same.trans sb kc
      have hfc := kc _ _ hfb
      generalize eHc : upd Hb D _ = Hc at hfc
      have sc : Same H1 Hc := by rw [← eHc]; exact sc
      clear eHc
      refine ⟨_, rfl, He.ga K "TooMany", rfl, TT.tm.isc, _, _, _, rfl, (fun u r => r), TT.tm.ve, (fun dd z => by cases z; exact ⟨_, sc _ _ hd1⟩), true, rfl, iteT ⟨(show 4 ≤ sizeLine by rw [sizeLine_eq]; omega), fun sl hsl => ?_⟩⟩
      have kd := Same.new (o := .lst [V.str "turn", .str "stuck", .str "many", .str "number"]) hsl
      refine ⟨_, rfl, .inl ⟨rfl, _, SqL.of (kd _ _ hfc)⟩, fl, _, .bl true, 2, .bl true, rfl, rfl, SqL.of (kd _ _ hfc), rfl, by decide, rfl, by decide, fun m z' hm e => ?_, ?_⟩
      · have : m = 0 ∨ m = 1 := by omega
        rcases this with rfl | rfl
        · cases e
          rfl
        · cases e
          rfl
      refine ⟨sl, _, _, _, rfl, rfl, SqL.of upd_same, rfl, sz2, fun t2 ht2 => ?_⟩
      have ke := Same.new (o := .tup [.str "many", .int 0]) ht2
      have se := Same.trans sc (Same.trans kd ke)
      refine ⟨_, rfl, t2, _, _, _, rfl, rfl, SqT.of upd_same, rfl, rfl, true, congrArg V.bl (decide_eq_true rfl), iteT ⟨He.ga K "TooMany", rfl, TT.tm.xfc, TT.tm.most, _, rfl, rfl, rfl, d1, _, _, rfl, se _ _ hd1, rfl, sz2, fun t3 ht3 => ?_⟩⟩
      exact ⟨_, rfl, q _ t3 (Same.trans s0 (Same.trans s1 (Same.trans se (Same.new ht3)))) upd_same⟩
end
end Fo
end
section
set_option Elab.async false
set_option linter.all false
set_option maxRecDepth 100000
set_option maxHeartbeats 8000000
set_option pp.maxSteps 900
namespace Fo
open PySem PySem.Spec PyProof.Rows L2 LamX NdefX
theorem flat_rep {α : Type} (x : α) : ∀ k : Nat, (List.replicate k [x]).flatten = List.replicate k x
  | 0 => rfl
  | k + 1 => by rw [List.replicate_succ, List.flatten_cons, flat_rep x k]; rfl
theorem tups_rep {H : Hp} {e : Addr} {xs : List V} (he : H e = some (.tup xs)) : ∀ k : Nat, Tups H (List.replicate k (.ref e)) (List.replicate k xs)
  | 0 => .nil
  | k + 1 => .cons ⟨e, rfl, he⟩ (tups_rep he k)
/-- a tuple of k times the same row -/
theorem rows_rep {H : Hp} {e p : Addr} {r : List Nat} {k : Nat} (he : H e = some (.tup (r.map iV))) (hp : H p = some (.tup (List.replicate k [V.ref e]).flatten)) : Rows H p (List.replicate k r) :=
  ⟨_, by rw [hp, flat_rep], by rw [List.map_replicate]; exact tups_rep he k⟩
theorem deal_own {rs : List (List Nat)} (h : ∀ (i : Nat) (r : List Nat), rs[i]? = some r → i ∈ r) : Deal rs := by
  refine ⟨List.range rs.length, List.length_range, List.nodup_range, fun i r x hr hx => ?_⟩
  have hi := (List.getElem?_eq_some_iff.mp hr).1
  rw [List.getElem?_range hi] at hx
  cases hx
  exact h i r hr
theorem no_deal_zero {k : Nat} (h : 2 ≤ k) : ¬ Deal (List.replicate k [0]) := by
  rintro ⟨d, dl, dn, dm⟩
  rw [List.length_replicate] at dl
  have h0 : d[0]? = some d[0] := List.getElem?_eq_getElem (by omega)
  have h1 : d[1]? = some d[1] := List.getElem?_eq_getElem (by omega)
  have e0 := List.mem_singleton.mp (dm 0 [0] _ (by rw [List.getElem?_replicate, if_pos (by omega)]) h0)
  have e1 := List.mem_singleton.mp (dm 1 [0] _ (by rw [List.getElem?_replicate, if_pos (by omega)]) h1)
  have := (List.getElem_inj dn).mp (e0.trans e1.symm)
  omega
theorem no_deal_nil {k : Nat} (h : 1 ≤ k) : ¬ Deal (List.replicate k []) := by
  rintro ⟨d, dl, dn, dm⟩
  rw [List.length_replicate] at dl
  have h0 : d[0]? = some d[0] := List.getElem?_eq_getElem (by omega)
  exact nomatch (dm 0 [] _ (by rw [List.getElem?_replicate, if_pos (by omega)]) h0)
/-- a table and what is told of it -/
def DueAt (K : PySem.W.Frag) (H : Hp) (v u : V) : Prop := ∃ (tb dp : Addr) (rows : List (List Nat)), v = .ref tb ∧ u = .ref dp ∧ Tab K H tb rows ∧ 0 < rows.length ∧ rows.length ≤ 12 ∧ Sml rows ∧
  ((¬ Deal rows ∧ H dp = some (.tup [.str "stuck", .int 0])) ∨ (Deal rows ∧ 6 < rows.length ∧ H dp = some (.tup [.str "many", .int 6])))
theorem DueAt.kl {K : PySem.W.Frag} {H H' : Hp} {v u : V} (h : DueAt K H v u) (k : KpL H H') : DueAt K H' v u := by
  obtain ⟨tb, dp, rows, e1, e2, tab, r0, r12, rs, h⟩ := h
  refine ⟨tb, dp, rows, e1, e2, tab.kl k, r0, r12, rs, ?_⟩
  rcases h with ⟨h1, h2⟩ | ⟨h1, h2, h3⟩
  · exact .inl ⟨h1, k _ _ (fun _ z => nomatch z) h2⟩
  · exact .inr ⟨h1, h2, k _ _ (fun _ z => nomatch z) h3⟩
theorem KpL.at {H H' : Hp} {b : Addr} {u : HO} (k : KpL H H') (e : H b = some u) (n : ∀ xs, u ≠ HO.lst xs) : H' b = some u := k b u n e
theorem SmP.kl {p c : Addr} {H H' : Hp} (k : SmP p c H H') (pl : Pool H p c) : KpL H H' := fun b u n e => by
  obtain ⟨⟨xp, ep⟩, xc, ec⟩ := pl.ls
  exact k b u (ne_of e ep (n xp)) (ne_of e ec (n xc)) e
theorem eqv_si (z : Str) (i : Int) : PyData.eqv (.tuple [.str z, .int i]) (.tuple [.str z, .int i]) = true := by
  simp [PyData.eqv, PyData.eqvAll]
theorem dp_si {K : PySem.W.Frag} {H : Hp} {a : Addr} {z : Str} {i : Int} (h : H a = some (.tup [.str z, .int i])) : Dp K H (.ref a) (.tuple [.str z, .int i]) := .tup (SqT.of h) (.cons (.str z) (.cons (.int i) .nil))
theorem ne_si {K : PySem.W.Frag} {H : Hp} {a b : Addr} {z : Str} {i : Int} {Q : VK} (hs : SeqAt.shaped (.tuple [.str z, .int i]) = true) (ha : H a = some (.tup [.str z, .int i])) (hb : H b = some (.tup [.str z, .int i])) (q : Q (.bl false) H) : rNeD K (.ref a) (.ref b) H Q :=
  ⟨_, _, dp_si ha, dp_si hb, hs, hs, by rw [eqv_si]; exact q⟩
theorem eq_si {K : PySem.W.Frag} {H : Hp} {a b : Addr} {z : Str} {i : Int} {Q : VK} (hs : SeqAt.shaped (.tuple [.str z, .int i]) = true) (ha : H a = some (.tup [.str z, .int i])) (hb : H b = some (.tup [.str z, .int i])) (q : Q (.bl true) H) : rEqD K (.ref a) (.ref b) H Q :=
  ⟨_, _, dp_si ha, dp_si hb, hs, hs, by rw [eqv_si]; exact q⟩
theorem noAll_tup {H : Hp} {p : Addr} {xs : List V} {n : Nat} (hp : H p = some (.tup xs)) (hk : ∀ y ∈ xs, Kn H y) (h : xs.length ≠ n ∨ ∃ y ∈ xs, inW y 0 ((n : Int) - 1) = false) : NoAll H (.ref p) n := by
  refine ⟨.inl ⟨xs, hp⟩, fun a ys e1 e2 => ?_⟩
  cases e1
  rw [hp] at e2
  cases e2
  exact ⟨hk, h⟩
/-- what is told of a table -/
theorem due_told {H : Hp} {x : V} {dp : Addr} {rows : List (List Nat)} {t : List Nat} (ht : TurnAt H x rows.length t) (h : (¬ Deal rows ∧ H dp = some (.tup [.str "stuck", .int 0])) ∨ (Deal rows ∧ 6 < rows.length ∧ H dp = some (.tup [.str "many", .int 6]))) : ∃ (z : Str) (i : Int), SeqAt.shaped (.tuple [.str z, .int i]) = true ∧ H dp = some (.tup [.str z, .int i]) ∧
    ∀ R : Hp → Addr → Prop, (∀ H' p, Same H H' → H' p = some (.tup [.str z, .int i]) → R H' p) → ((NoAll H x rows.length ∧ ∀ H' p, Same H H' → H' p = some (.tup [.str "turn", .int 0]) → R H' p) ∨
    (∃ t, TurnAt H x rows.length t ∧ ¬ Deal rows ∧ ∀ H' p, Same H H' → H' p = some (.tup [.str "stuck", .int 0]) → R H' p) ∨
    (∃ t, TurnAt H x rows.length t ∧ Deal rows ∧ 6 < rows.length ∧ ∀ H' p, Same H H' → H' p = some (.tup [.str "many", .int 6]) → R H' p)) := by
  rcases h with ⟨h1, h2⟩ | ⟨h1, h2, h3⟩
  · exact ⟨_, _, by decide +kernel, h2, fun R q => .inr (.inl ⟨t, ht, h1, q⟩)⟩
  · exact ⟨_, _, by decide +kernel, h3, fun R q => .inr (.inr ⟨t, ht, h1, h2, q⟩)⟩
def spRefused : Sp := fun vs H Q _ => ∃ (p c : Addr) (n : Nat), vs = [.ref p, iV n] ∧ Pool H p c ∧ 1 ≤ n ∧ n ≤ 6 ∧ ∀ H', SmP p c H H' → Q (.bl true) H'
section
variable {P : Program} {w : World} {K : PySem.W.Frag} {mg : Str → Option Value} {base : Heap}
theorem D_law_refused (T : Hd K mg) (TX : Hx K mg) (TT : Ht K) (DM : ∀ {w : World} {base : Heap}, Fn P w K mg base (L2N.CX P w) 3 "check_many" (spManyC K)) : Fn P w K mg base CX0 20 "_law_refused" spRefused := by
  have D_law_told := fun {w base} => D_law_told (P := P) (w := w) (base := base) T TX TT DM
  have D_law_draw := fun {P w base} => D_law_draw (P := P) (w := w) (base := base) T
  have D_law_mixed := fun {P w base} => D_law_mixed (P := P) (w := w) (base := base) T
  have D_names := fun {P w base} => D_names (P := P) (w := w) (base := base) T
  have D_full := fun {P w base} => D_full (P := P) (w := w) (base := base) T
  have D_ring := fun {P w base} => D_ring (P := P) (w := w) (base := base) T
  have D_Table_init := fun {P w base} => D_Table_init (P := P) (w := w) (base := base) T
  obtain ⟨fd, F⟩ := T.d_law_refused
  refine ⟨T.g_law_refused, T.p_law_refused, fd, ["_law_pool_here", "_law_size"], ?_, FunD.bindsN F fun _ _ _ _ _ _ us hl => match us, hl with | [_, _], _ => rfl⟩
  refine F.ok sc_law_refused (fun vs H Q E h => ?_) (fun cdv A outer s H vs Q E hr h => ⟨_, (have hu := hu_of hr; (pss_cons (ps_set (i := 2) sc_law_refused.nd rfl (.inl rfl) (pe_lst (pa_cons (pe_fn D_names (hr.mono (by first | decide | omega)) rfl pass0 (pa_cons pe_int pa_nil)) (pa_cons (pe_mkc D_Table_init (hr.mono (by first | decide | omega)) rfl pass0 (pa_cons (pe_op op_repA (pe_tup (pa_cons (pe_tup (pa_cons pe_int pa_nil)) pa_nil)) (pe_op op_add (pv 1) pe_int)) pa_nil)) (pa_cons (pe_fn D_full (hr.mono (by first | decide | omega)) rfl pass0 (pa_cons pe_int pa_nil)) (pa_cons (pe_mkc D_Table_init (hr.mono (by first | decide | omega)) rfl pass0 (pa_cons (pe_op op_repA (pe_tup (pa_cons (pe_tup pa_nil) pa_nil)) pe_int) pa_nil)) (pa_cons (pe_fn D_ring (hr.mono (by first | decide | omega)) rfl pass0 (pa_cons pe_int pa_nil)) (pa_cons (pe_mkc D_Table_init (hr.mono (by first | decide | omega)) rfl pass0 (pa_cons (pe_op op_repA (pe_tup (pa_cons (pe_tup pa_nil) pa_nil)) (pv 1)) pa_nil)) pa_nil))))))))
      (pss_cons (ps_set (i := 3) sc_law_refused.nd rfl (.inl rfl) (pe_lst (pa_cons (pe_tup (pa_cons pe_str (pa_cons pe_int pa_nil))) (pa_cons (pe_tup (pa_cons pe_str (pa_cons pe_int pa_nil))) (pa_cons (pe_tup (pa_cons pe_str (pa_cons pe_int pa_nil))) (pa_cons (pe_tup (pa_cons pe_str (pa_cons pe_int pa_nil))) (pa_cons (pe_tup (pa_cons pe_str (pa_cons pe_int pa_nil))) (pa_cons (pe_tup (pa_cons pe_str (pa_cons pe_int pa_nil))) pa_nil))))))))
      (pss_cons (ps_set (i := 4) sc_law_refused.nd rfl (.inl rfl) (pe_fn D_law_draw (hr.mono (by first | decide | omega)) rfl pass0 (pa_cons (pv 0) (pa_cons pe_int pa_nil))))
      (pss_cons (ps_set (i := 5) sc_law_refused.nd rfl (.inl rfl) (pe_ix ix_list (pv 2) (pv 4) (fun _ _ => rfl)))
      (pss_cons (ps_set (i := 6) sc_law_refused.nd rfl (.inl rfl) (pe_callTy call_tuple_of rfl T.f_tuple bt_tuple (pa_cons (pe_fn D_law_mixed (hr.mono (by first | decide | omega)) rfl pass0 (pa_cons (pv 0) (pa_cons (pe_listRg rfl rfl T.f_list (prg_1 rfl T.f_range (pe_fld (pv 5) rfl))) pa_nil))) pa_nil)))
      (pss_cons (ps_if (pt_cmpR (op_neD hr.units) (pe_fn D_law_told (hr.mono (by first | decide | omega)) rfl pass0 (pa_cons (pv 5) (pa_cons (pv 6) pa_nil))) (pe_ix ix_list (pv 3) (pv 4) (fun _ _ => rfl)) (nomark _))
        (pss_one (ps_ret pe_bl))
        pss_nil)
      (pss_cons (ps_set (i := 7) sc_law_refused.nd rfl (.inl rfl) (pe_fn D_law_draw (hr.mono (by first | decide | omega)) rfl pass0 (pa_cons (pv 0) (pa_cons (pe_fld (pv 5) rfl) pa_nil))))
      (pss_cons (ps_set (i := 8) sc_law_refused.nd rfl (.inl rfl) (pe_ix ix_list (pe_lst (pa_cons (pe_fld (pv 5) rfl) (pa_cons (pe_un un_neg pe_int) (pa_cons pe_bl (pa_cons pe_non (pa_cons pe_str (pa_cons (pe_tup (pa_cons pe_int pa_nil)) (pa_cons pe_bl (pa_cons (pe_op op_pow pe_int pe_int) pa_nil))))))))) (pe_fn D_law_draw (hr.mono (by first | decide | omega)) rfl pass0 (pa_cons (pv 0) (pa_cons pe_int pa_nil))) (fun _ _ => rfl)))
      (pss_cons (ps_set (i := 9) sc_law_refused.nd rfl (.inl rfl) (pe_lst (pa_cons (pe_op op_catA (pe_op op_catA (pe_slice sl_tupA (pv 6) po_none (po_some (pv 7))) (pe_tup (pa_cons (pv 8) pa_nil))) (pe_slice sl_tupA (pv 6) (po_some (pe_op op_add (pv 7) pe_int)) po_none)) (pa_cons (pe_callTy call_list_of rfl T.f_list bt_list (pa_cons (pv 6) pa_nil)) (pa_cons (pe_slice sl_tupA (pv 6) po_none (po_some (pv 7))) (pa_cons (pe_op op_catA (pv 6) (pe_tup (pa_cons (pv 8) pa_nil))) (pa_cons pe_non (pa_cons pe_str (pa_cons pe_int (pa_cons (pe_op op_catA (pv 6) (pv 6)) pa_nil))))))))))
      (pss_one (ps_ret (pe_cmpR (op_eqD hr.units) (pe_fn D_law_told (hr.mono (by first | decide | omega)) rfl pass0 (pa_cons (pv 5) (pa_cons (pe_ix ix_list (pv 9) (pe_fn D_law_draw (hr.mono (by first | decide | omega)) rfl pass0 (pa_cons (pv 0) (pa_cons pe_int pa_nil))) (fun _ _ => rfl)) pa_nil))) (pe_tup (pa_cons pe_str (pa_cons pe_int pa_nil))) (nomark _)))))))))))))), ?_⟩)
  · obtain ⟨_, _, _, rfl, _⟩ := h; rfl
  · obtain ⟨p, c, n, rfl, hpool, hn0, hn, q⟩ := h
    obtain ⟨⟨xp, ep⟩, xc, ec⟩ := hpool.ls
    -- the tables
    refine ⟨7, rfl, by decide, by decide, fun H1 t1 _ s1 tab1 => ?_⟩
    refine ⟨sz1, fun e1 he1 => ⟨sz1, fun e2 he2 => ?_⟩⟩
    have k2 := Same.trans (Same.new (o := .tup [.int 0]) he1) (Same.new (o := .tup [.ref e1]) he2)
    have he1' : (upd (upd H1 e1 (.tup [.int 0])) e2 (.tup [.ref e1])) e1 = some (.tup ([0].map iV)) := Same.new he2 _ _ upd_same
    refine ⟨_, rfl, _, _, rfl, rfl, e2, _, [.ref e1], rfl, rfl, upd_same, (fun z => nomatch z), by omega, by omega, (show 1 ≤ 1000 by decide), fun p2 H2 s2 hp2 => ?_⟩
    have en : (((n : Nat) : Int) + 1).toNat = n + 1 := by omega
    rw [en] at hp2
    have r2 : Rows H2 p2 (List.replicate (n + 1) [0]) := rows_rep (s2 _ _ he1') hp2
    refine fun t2 dx2 ht2 hdx2 _ => ⟨t2, dx2, p2, _, rfl, upd_same, r2.same (fun b u e => by rw [upd_ne (ne_of_none e ht2), upd_ne (ne_of_none e hdx2)]; exact e), by rw [List.length_replicate]; omega, by rw [List.length_replicate]; omega, fun r hr => ?_, fun H3 sx3 tab2 => ⟨rfl, ?_⟩⟩
    · rw [List.eq_of_mem_replicate hr, List.length_replicate]
      exact ⟨List.pairwise_singleton _ _, fun x hx => by rw [List.mem_singleton.mp hx]; omega⟩
    have s3 := Same.trans k2 (Same.trans s2 (made_same ht2 hdx2 sx3))
    refine ⟨9, rfl, by decide, by decide, fun H4 t3 _ s4 tab3 => ?_⟩
    refine ⟨Nat.zero_le _, fun e3 he3 => ⟨sz1, fun e4 he4 => ?_⟩⟩
    have k4 := Same.trans (Same.new (o := .tup []) he3) (Same.new (o := .tup [.ref e3]) he4)
    have he3' : (upd (upd H4 e3 (.tup [])) e4 (.tup [.ref e3])) e3 = some (.tup (([] : List Nat).map iV)) := Same.new he4 _ _ upd_same
    refine ⟨e4, _, [.ref e3], rfl, rfl, upd_same, (fun z => nomatch z), by omega, by omega, (show 1 ≤ 1000 by decide), fun p5 H5 s5 hp5 => ?_⟩
    have r5 : Rows H5 p5 (List.replicate 7 []) := rows_rep (s5 _ _ he3') hp5
    refine fun t4 dx4 ht4 hdx4 _ => ⟨t4, dx4, p5, _, rfl, upd_same, r5.same (fun b u e => by rw [upd_ne (ne_of_none e ht4), upd_ne (ne_of_none e hdx4)]; exact e), by decide, by decide, fun r hr => ?_, fun H6 sx6 tab4 => ⟨rfl, ?_⟩⟩
    · rw [List.eq_of_mem_replicate hr]
      exact ⟨List.Pairwise.nil, fun x hx => nomatch hx⟩
    have s6 := Same.trans k4 (Same.trans s5 (made_same ht4 hdx4 sx6))
    refine ⟨8, rfl, by decide, by decide, fun H7 t5 rows8 _ s7 tab5 len8 own8 => ?_⟩
    refine ⟨Nat.zero_le _, fun e5 he5 => ⟨sz1, fun e6 he6 => ?_⟩⟩
    have k7 := Same.trans (Same.new (o := .tup []) he5) (Same.new (o := .tup [.ref e5]) he6)
    have he5' : (upd (upd H7 e5 (.tup [])) e6 (.tup [.ref e5])) e5 = some (.tup (([] : List Nat).map iV)) := Same.new he6 _ _ upd_same
    refine ⟨_, rfl, e6, _, [.ref e5], rfl, rfl, upd_same, (fun z => nomatch z), by omega, by omega, (show 1 ≤ 1000 by decide), fun p8 H8 s8 hp8 => ?_⟩
    rw [Int.toNat_natCast] at hp8
    have r8 : Rows H8 p8 (List.replicate n []) := rows_rep (s8 _ _ he5') hp8
    refine fun t6 dx6 ht6 hdx6 _ => ⟨t6, dx6, p8, _, rfl, upd_same, r8.same (fun b u e => by rw [upd_ne (ne_of_none e ht6), upd_ne (ne_of_none e hdx6)]; exact e), by rw [List.length_replicate]; omega, by rw [List.length_replicate]; omega, fun r hr => ?_, fun H9 sx9 tab6 => ⟨rfl, ?_⟩⟩
    · rw [List.eq_of_mem_replicate hr]
      exact ⟨List.Pairwise.nil, fun x hx => nomatch hx⟩
    have s9 := Same.trans k7 (Same.trans s8 (made_same ht6 hdx6 sx9))
    refine ⟨(show 6 ≤ sizeLine by rw [sizeLine_eq]; omega), fun tl htl => ?_⟩
    have stl := Same.new (o := .lst [V.ref t1, .ref t2, .ref t3, .ref t4, .ref t5, .ref t6]) htl
    -- what is due
    refine ⟨sz2, fun d1 hd1 => ⟨sz2, fun d2 hd2 => ⟨sz2, fun d3 hd3 => ⟨sz2, fun d4 hd4 => ⟨sz2, fun d5 hd5 => ⟨sz2, fun d6 hd6 => ⟨(show 6 ≤ sizeLine by rw [sizeLine_eq]; omega), fun dl hdl => ?_⟩⟩⟩⟩⟩⟩⟩
    have q6 := Same.new (o := .tup [.str "stuck", .int 0]) hd6
    have q5 := Same.trans (Same.new (o := .tup [.str "many", .int 6]) hd5) q6
    have q4 := Same.trans (Same.new (o := .tup [.str "stuck", .int 0]) hd4) q5
    have q3 := Same.trans (Same.new (o := .tup [.str "many", .int 6]) hd3) q4
    have q2 := Same.trans (Same.new (o := .tup [.str "stuck", .int 0]) hd2) q3
    have q1 := Same.trans (Same.new (o := .tup [.str "many", .int 6]) hd1) q2
    have sdl := Same.new (o := .lst [V.ref d1, .ref d2, .ref d3, .ref d4, .ref d5, .ref d6]) hdl
    have x1 := sdl _ _ (q2 _ _ (upd_same (o := .tup [.str "many", .int 6])))
    have x2 := sdl _ _ (q3 _ _ (upd_same (o := .tup [.str "stuck", .int 0])))
    have x3 := sdl _ _ (q4 _ _ (upd_same (o := .tup [.str "many", .int 6])))
    have x4 := sdl _ _ (q5 _ _ (upd_same (o := .tup [.str "stuck", .int 0])))
    have x5 := sdl _ _ (q6 _ _ (upd_same (o := .tup [.str "many", .int 6])))
    have x6 := sdl _ _ (upd_same (o := .tup [.str "stuck", .int 0]))
    have xt := sdl _ _ (q1 _ _ (upd_same (o := .lst [V.ref t1, .ref t2, .ref t3, .ref t4, .ref t5, .ref t6])))
    have sE := Same.trans stl (Same.trans q1 sdl)
    clear stl q1 q2 q3 q4 q5 q6 sdl
    generalize eHf : upd _ dl (.lst [V.ref d1, .ref d2, .ref d3, .ref d4, .ref d5, .ref d6]) = Hf at x1 x2 x3 x4 x5 x6 xt sE ⊢
    have xd : Hf dl = some (.lst [V.ref d1, .ref d2, .ref d3, .ref d4, .ref d5, .ref d6]) := by rw [← eHf]; exact upd_same
    have dlH : H9 dl = none := same_none (by
      clear eHf
      exact Same.trans (Same.new htl) (Same.trans (Same.new hd1) (Same.trans (Same.new hd2) (Same.trans (Same.new hd3) (Same.trans (Same.new hd4) (Same.trans (Same.new hd5) (Same.new hd6))))))) hdl
    clear eHf
    have a7 := Same.trans s9 sE
    have a6 := Same.trans s7 a7
    have a4 := Same.trans s6 a6
    have a3 := Same.trans s4 a4
    have a1 := Same.trans s3 a3
    have a0 := Same.trans s1 a1
    have sH9 : Same H H9 := Same.trans s1 (Same.trans s3 (Same.trans s4 (Same.trans s6 (Same.trans s7 s9))))
    have dl0 := same_none sH9 dlH
    have tl0 := same_none sH9 htl
    have pd : Paired (DueAt K Hf) [V.ref t1, .ref t2, .ref t3, .ref t4, .ref t5, .ref t6] [V.ref d1, .ref d2, .ref d3, .ref d4, .ref d5, .ref d6] := by
      refine .cons ⟨t1, d1, _, rfl, rfl, tab1.same a1, by decide, by decide, by unfold Sml; decide +kernel, .inr ⟨(names_good (n := 7) (by decide)).deal, by decide, x1⟩⟩ (.cons ⟨t2, d2, _, rfl, rfl, tab2.same a3, by rw [List.length_replicate]; omega, by rw [List.length_replicate]; omega, ⟨by rw [List.length_replicate]; omega, fun r hr => ?_⟩, .inl ⟨no_deal_zero (by omega), x2⟩⟩ (.cons ⟨t3, d3, _, rfl, rfl, tab3.same a4, by decide, by decide, by unfold Sml; decide +kernel, .inr ⟨deal_own fun i r hr => ?_, by decide, x3⟩⟩
        (.cons ⟨t4, d4, _, rfl, rfl, tab4.same a6, by decide, by decide, by unfold Sml; decide +kernel, .inl ⟨no_deal_nil (by decide), x4⟩⟩ (.cons ⟨t5, d5, _, rfl, rfl, tab5.same a7, by omega, by omega, ⟨by omega, fun r hr => ?_⟩, .inr ⟨deal_own fun i r hr => (own8 i r hr).1, by omega, x5⟩⟩ (.cons ⟨t6, d6, _, rfl, rfl, tab6.same sE, by rw [List.length_replicate]; omega, by rw [List.length_replicate]; omega, ⟨by rw [List.length_replicate]; omega, fun r hr => ?_⟩, .inl ⟨no_deal_nil hn0, x6⟩⟩ .nil)))))
      · rw [List.eq_of_mem_replicate hr]
        exact ⟨by decide, fun x hx => by rw [List.mem_singleton.mp hx]; omega⟩
      · unfold rowsFull at hr
        rw [List.getElem?_map] at hr
        obtain ⟨j, hj, rfl⟩ := Option.map_eq_some_iff.mp hr
        have := (List.getElem?_eq_some_iff.mp hj).1
        rw [List.length_range] at this
        exact List.mem_range.mpr this
      · obtain ⟨i, hi⟩ := List.mem_iff_getElem?.mp hr
        obtain ⟨_, h2, h3⟩ := own8 i r hi
        exact ⟨by omega, fun x hx => by have := h3 x hx; omega⟩
      · rw [List.eq_of_mem_replicate hr]
        exact ⟨by decide, fun x hx => nomatch hx⟩
    clear x1 x2 x3 x4 x5 x6
    have plf : Pool Hf p c := hpool.at (fun u e => a0 _ _ e) (fun u e => a0 _ _ e)
    have okp : ∀ {b : Addr}, H b = none → b ≠ p ∧ b ≠ c := fun {b} e => ⟨fun z => (by rw [z, ep] at e; cases e), fun z => (by rw [z, ec] at e; cases e)⟩
    refine ⟨_, rfl, p, c, 6, rfl, plf, by decide, by decide, fun Hg at_ hat smg plg => ?_⟩
    have xtg := smg _ _ (okp tl0).1 (okp tl0).2 xt
    have xdg := smg _ _ (okp dl0).1 (okp dl0).2 xd
    obtain ⟨v, hv⟩ : ∃ v, [V.ref t1, .ref t2, .ref t3, .ref t4, .ref t5, .ref t6][at_]? = some v := ⟨_, List.getElem?_eq_getElem hat⟩
    obtain ⟨u, hu, due⟩ := paired_get pd hv
    obtain ⟨tb, dp, rows, rfl, rfl, tab, r0, r12, rs, hdue⟩ := due.kl (smg.kl plf)
    refine ⟨_, rfl, _, rfl, tl, _, _, _, rfl, rfl, SqL.of xtg, atI_nat hv, ?_⟩
    obtain ⟨C, dx, ra, g1, hC, nr, ns, hrw⟩ := tab.rd T
    refine ⟨_, rfl, _, rfl, tb, C, dx, _, _, rfl, g1, hC, ns, rfl, _, rfl, RgOk.of_le (by omega) (by omega) (by omega) (by omega), fun a ha => ?_⟩
    have sa := Same.new (o := .lst (rgV 0 ((rows.length : Nat) : Int))) ha
    have sm0 : SmP p c H Hg := fun b u n1 n2 e => smg _ _ n1 n2 (a0 _ _ e)
    have a0H := SmP.free sm0 plg ha
    refine ⟨p, c, a, (List.range rows.length).map iV, rfl, plg.at (fun u e => sa _ _ e) (fun u e => sa _ _ e), (okp a0H).1, (okp a0H).2, by rw [upd_same, rg0], by rw [List.length_map, List.length_range]; omega, fun Hh l ys hperm hl0 smh plh hlh => ?_⟩
    obtain ⟨t, rfl, ht⟩ := mixed_nats hperm
    have htl := turn_len ht
    refine ⟨l, _, rfl, .inl ⟨SqL.of hlh, fun ta hta => ?_⟩⟩
    have shi := Same.new (o := .tup (t.map iV)) hta
    have hti : upd Hh ta (.tup (t.map iV)) ta = some (.tup (t.map iV)) := upd_same
    generalize upd Hh ta (.tup (t.map iV)) = Hi at shi hti ⊢
    have kgi : KpL Hg Hi := fun b u n e => shi _ _ (smh.kl (plg.at (fun u e => sa _ _ e) (fun u e => sa _ _ e)) b u n (sa _ _ e))
    have smi : SmP p c H Hi := fun b u n1 n2 e => shi _ _ (smh _ _ n1 n2 (sa _ _ (sm0 _ _ n1 n2 e)))
    have pli : Pool Hi p c := plh.at (fun u e => shi _ _ e) (fun u e => shi _ _ e)
    have xdi := shi _ _ (smh _ _ (okp dl0).1 (okp dl0).2 (sa _ _ xdg))
    have hdi : (¬ Deal rows ∧ Hi dp = some (.tup [.str "stuck", .int 0])) ∨ (Deal rows ∧ 6 < rows.length ∧ Hi dp = some (.tup [.str "many", .int 6])) := hdue.imp (fun h => ⟨h.1, KpL.at kgi h.2 (fun _ z => nomatch z)⟩) (fun h => ⟨h.1, h.2.1, KpL.at kgi h.2.2 (fun _ z => nomatch z)⟩)
    obtain ⟨z, iz, hsh, hdpi, told⟩ := due_told ⟨ta, rfl, hti, ht⟩ hdi
    refine ⟨_, rfl, _, rfl, tb, rows, .ref ta, rfl, tab.kl kgi, r12, rs, told _ fun Hj pt sj hpt => ?_⟩
    refine ⟨_, rfl, _, rfl, dl, _, _, _, rfl, rfl, SqL.of (sj _ _ xdi), atI_nat hu, ne_si hsh hpt (sj _ _ hdpi) ⟨false, rfl, iteF ?_⟩⟩
    have g1j := sj _ _ (KpL.at kgi g1 (fun _ z => nomatch z))
    have plj : Pool Hj p c := pli.at (fun u e => sj _ _ e) (fun u e => sj _ _ e)
    have smj : SmP p c H Hj := fun b u n1 n2 e => sj _ _ (smi _ _ n1 n2 e)
    have tabj := (tab.kl kgi).same sj
    refine ⟨_, rfl, _, rfl, tb, C, dx, _, _, rfl, g1j, hC, ns, rfl, p, c, rows.length, rfl, plj, r0, by omega, fun Hk sp hsp smk plk => ?_⟩
    have kk := smk.kl plj
    have g1k := KpL.at kk g1j (fun _ z => nomatch z)
    have tabk := tabj.kl kk
    have htk := KpL.at kk (sj _ _ hti) (fun _ z => nomatch z)
    have smk' : SmP p c H Hk := smj.tr smk
    refine ⟨_, rfl, tb, C, dx, _, _, rfl, g1k, hC, ns, rfl, _, rfl, sz1, fun o1 ho1 => ⟨_, _, rfl, rfl, ⟨by decide, by decide, by decide⟩, (show 8 ≤ sizeLine by rw [sizeLine_eq]; omega), fun ol hol => ?_⟩⟩
    have so1 := Same.new (o := .tup [.int 0]) ho1
    have ol0 := SmP.free smk' plk (same_none so1 hol)
    have sol := Same.new (o := .lst [iV rows.length, .int (-1), .bl true, .non, .str "0", .ref o1, .bl false, .int (10 ^ (30 : Int).toNat)]) hol
    have ho1' := sol _ _ (upd_same (H := Hk) (a := o1) (o := .tup [.int 0]))
    have sl := Same.trans so1 sol
    generalize eHl : upd (upd Hk o1 (.tup [.int 0])) ol _ = Hl at ho1' ⊢
    have sl : Same Hk Hl := by rw [← eHl]; exact sl
    have holl : Hl ol = some (.lst [iV rows.length, .int (-1), .bl true, .non, .str "0", .ref o1, .bl false, .int (10 ^ (30 : Int).toNat)]) := by rw [← eHl]; exact upd_same
    clear eHl
    have pll : Pool Hl p c := plk.at (fun u e => sl _ _ e) (fun u e => sl _ _ e)
    refine ⟨_, rfl, p, c, 8, rfl, pll, by decide, by decide, fun Hm dd hdd smm plm => ?_⟩
    have km := smm.kl pll
    have holm := smm _ _ (okp ol0).1 (okp ol0).2 holl
    have ho1m := KpL.at km ho1' (fun _ z => nomatch z)
    obtain ⟨odd, hodd⟩ : ∃ v, [iV rows.length, .int (-1), .bl true, .non, .str "0", .ref o1, .bl false, .int (10 ^ (30 : Int).toNat)][dd]? = some v := ⟨_, List.getElem?_eq_getElem hdd⟩
    have hodk : (∀ H' : Hp, KpL Hm H' → Kn H' odd) ∧ inW odd 0 (((rows.length : Nat) : Int) - 1) = false := by
      have big : ((10 : Int) ^ (30 : Int).toNat) = 1000000000000000000000000000000 := by decide +kernel
      have := List.mem_of_getElem? hodd
      simp only [List.mem_cons, List.not_mem_nil, or_false] at this
      rcases this with rfl | rfl | rfl | rfl | rfl | rfl | rfl | rfl
      · exact ⟨fun _ _ => trivial, by rw [inW_nat]; exact decide_eq_false (Nat.lt_irrefl _)⟩
      · exact ⟨fun _ _ => trivial, rfl⟩
      · exact ⟨fun _ _ => trivial, rfl⟩
      · exact ⟨fun _ _ => trivial, rfl⟩
      · exact ⟨fun _ _ => trivial, rfl⟩
      · exact ⟨fun H' k => .inl ⟨_, k _ _ (fun _ z => nomatch z) ho1m⟩, rfl⟩
      · exact ⟨fun _ _ => trivial, rfl⟩
      · refine ⟨fun _ _ => trivial, ?_⟩
        rw [big]
        show (decide ((0 : Int) ≤ 1000000000000000000000000000000) && decide ((1000000000000000000000000000000 : Int) ≤ ((rows.length : Nat) : Int) - 1)) = false
        rw [decide_eq_false (p := (1000000000000000000000000000000 : Int) ≤ ((rows.length : Nat) : Int) - 1) (by omega), Bool.and_false]
    refine ⟨ol, _, _, _, rfl, rfl, SqL.of holm, atI_nat hodd, ?_⟩
    have htm := KpL.at km (sl _ _ htk) (fun _ z => nomatch z)
    have tabm := (tabk.same sl).kl km
    have smm' : SmP p c H Hm := fun b u n1 n2 e => smm _ _ n1 n2 (sl _ _ (smk' _ _ n1 n2 e))
    have ml : (t.map iV).length = rows.length := by rw [List.length_map, htl]
    -- the wrong turns
    refine ⟨_, rfl, _, rfl, _, rfl, slA_to htm (by omega) fun Ga pa sGa hpa => ⟨_, rfl, sz1, fun pb hpb => ?_⟩⟩
    refine catA_to (Same.new hpb _ _ hpa) upd_same (by rw [List.length_take]; show _ + 1 ≤ _; omega) fun Gc pc sGc hpc => ?_
    have sc := Same.trans sGa (Same.trans (Same.new (o := .tup [odd]) hpb) sGc)
    refine ⟨_, rfl, _, rfl, _, _, rfl, rfl, _, rfl, slN_from (k := sp + 1) (sc _ _ htm) fun Gd pd' sGd hpd => ?_⟩
    refine catA_to (sGd _ _ hpc) hpd (by rw [List.length_append, List.length_take, List.length_drop]; show _ + 1 + _ ≤ _; omega) fun Ge pe' sGe hpe => ?_
    have se := Same.trans sc (Same.trans sGd sGe)
    refine ⟨_, rfl, ta, _, rfl, .inr (SqT.of (se _ _ htm)), fun l2 hl2 => ?_⟩
    have sf := Same.new (o := .lst (t.map iV)) hl2
    have hl2' : upd Ge l2 (.lst (t.map iV)) l2 = some (.lst (t.map iV)) := upd_same
    generalize upd Ge l2 (.lst (t.map iV)) = Gf at sf hl2' ⊢
    have sef := Same.trans se sf
    have l20 : H l2 = none := SmP.free smm' plm (same_none se hl2)
    refine ⟨_, rfl, _, rfl, _, rfl, slA_to (sef _ _ htm) (by omega) fun Gg pg sGg hpg => ?_⟩
    have sg := Same.trans sef sGg
    refine ⟨_, rfl, _, rfl, sz1, fun ph hph => catA_to (Same.new hph _ _ (sg _ _ htm)) upd_same (by show _ + 1 ≤ _; omega) fun Gi pi sGi hpi => ?_⟩
    have si := Same.trans (Same.new (o := .tup [odd]) hph) sGi
    have sgi := Same.trans sg si
    refine ⟨_, rfl, _, rfl, catA_to (sgi _ _ htm) (sgi _ _ htm) (by omega) fun Gj pj sGj hpj => ?_⟩
    refine ⟨(show 8 ≤ sizeLine by rw [sizeLine_eq]; omega), fun wl hwl => ?_⟩
    have swl := Same.new (o := .lst [V.ref pe', .ref l2, .ref pg, .ref pi, .non, .str "0", .int 0, .ref pj]) hwl
    have sj' := Same.trans sgi sGj
    have wl0 : H wl = none := SmP.free smm' plm (same_none sj' hwl)
    have sall := Same.trans sj' swl
    have plw : Pool (upd Gj wl (.lst [V.ref pe', .ref l2, .ref pg, .ref pi, .non, .str "0", .int 0, .ref pj])) p c := plm.at (fun u e => sall _ _ e) (fun u e => sall _ _ e)
    refine ⟨_, rfl, _, rfl, _, rfl, p, c, 8, rfl, plw, by decide, by decide, fun Hz dz hdz smz plz => ?_⟩
    have kz := smz.kl plw
    obtain ⟨wv, hwv⟩ : ∃ v, [V.ref pe', .ref l2, .ref pg, .ref pi, .non, .str "0", .int 0, .ref pj][dz]? = some v := ⟨_, List.getElem?_eq_getElem hdz⟩
    have kall : KpL Hm Hz := fun b u n e => kz _ _ n (sall _ _ e)
    have kint : ∀ y ∈ t.map iV, Kn Hz y := fun y hy => by
      obtain ⟨x, _, rfl⟩ := List.mem_map.mp hy
      trivial
    have hno : NoAll Hz wv rows.length := by
      have e5 := KpL.at kz (swl _ _ (sGj _ _ (si _ _ (sGg _ _ (sf _ _ hpe))))) (fun _ z => nomatch z)
      have e6 := smz _ _ (okp l20).1 (okp l20).2 (swl _ _ (sGj _ _ (si _ _ (sGg _ _ hl2'))))
      have e7 := KpL.at kz (swl _ _ (sGj _ _ (si _ _ hpg))) (fun _ z => nomatch z)
      have e8 := KpL.at kz (swl _ _ (sGj _ _ hpi)) (fun _ z => nomatch z)
      have e9 := KpL.at kz (swl _ _ hpj) (fun _ z => nomatch z)
      have ko := hodk.1 Hz kall
      have := List.mem_of_getElem? hwv
      simp only [List.mem_cons, List.not_mem_nil, or_false] at this
      rcases this with rfl | rfl | rfl | rfl | rfl | rfl | rfl | rfl
      · refine noAll_tup e5 (fun y hy => ?_) (.inr ⟨odd, List.mem_append_left _ (List.mem_append_right _ List.mem_cons_self), hodk.2⟩)
        rcases List.mem_append.mp hy with hy | hy
        · rcases List.mem_append.mp hy with hy | hy
          · exact kint y (List.mem_of_mem_take hy)
          · rw [List.mem_singleton.mp hy]; exact ko
        · exact kint y (List.mem_of_mem_drop hy)
      · refine ⟨.inr ⟨_, e6⟩, fun a xs z1 z2 => ?_⟩
        cases z1
        rw [e6] at z2
        cases z2
      · exact noAll_tup e7 (fun y hy => kint y (List.mem_of_mem_take hy)) (.inl (by rw [List.length_take]; omega))
      · refine noAll_tup e8 (fun y hy => ?_) (.inl (by rw [List.length_append, ml]; show _ + 1 ≠ _; omega))
        rcases List.mem_append.mp hy with hy | hy
        · exact kint y hy
        · rw [List.mem_singleton.mp hy]; exact ko
      · exact ⟨trivial, fun a xs z1 => nomatch z1⟩
      · exact ⟨trivial, fun a xs z1 => nomatch z1⟩
      · exact ⟨trivial, fun a xs z1 => nomatch z1⟩
      · refine noAll_tup e9 (fun y hy => ?_) (.inl (by rw [List.length_append, ml]; omega))
        rcases List.mem_append.mp hy with hy | hy
        · exact kint y hy
        · exact kint y hy
    refine ⟨wl, _, _, _, rfl, rfl, SqL.of (smz _ _ (okp wl0).1 (okp wl0).2 upd_same), atI_nat hwv, tb, rows, wv, rfl, (tabm.same sall).kl kz, r12, rs, .inl ⟨hno, fun Hy py sy hpy => ⟨sz2, fun pq hpq => ?_⟩⟩⟩
    refine eq_si (by decide +kernel) (Same.new hpq _ _ hpy) upd_same (q _ fun b u n1 n2 e => Same.new hpq _ _ (sy _ _ (smz _ _ n1 n2 (sall _ _ (smm' _ _ n1 n2 e)))))
end
end Fo
end
section
set_option Elab.async false
set_option linter.all false
set_option maxRecDepth 100000
set_option maxHeartbeats 8000000
set_option pp.maxSteps 900
namespace Fo
open PySem PySem.Spec PyProof.Rows L2 LamX NdefX
theorem Good.ok {rows : List (List Nat)} {n : Nat} (g : Good rows n) (hn : n ≤ 6) : RowsOk rows := ⟨by rw [g.len]; exact hn, fun r hr => Asc.nodup (g.row r hr).1, fun r hr x hx => by rw [g.len]; exact (g.row r hr).2 x hx⟩
theorem Good.few {rows : List (List Nat)} {n : Nat} (g : Good rows n) : ∀ r ∈ rows, r.length ≤ n := fun r hr => by
  have := nodup_len (Asc.nodup (g.row r hr).1) (k := List.range n) (fun y hy => List.mem_range.mpr ((g.row r hr).2 y hy))
  rwa [List.length_range] at this
theorem Good.sml {rows : List (List Nat)} {n : Nat} (g : Good rows n) (hn : n ≤ 6) : Sml rows := ⟨by rw [g.len]; omega, fun r hr => ⟨by have := g.few r hr; omega, fun x hx => by have := (g.row r hr).2 x hx; omega⟩⟩
theorem Good.cnt {rows : List (List Nat)} {n : Nat} (g : Good rows n) (hn : n ≤ 6) : 0 < Fo.cnt rows (whole rows.length) := (deal_cnt (g.ok hn).lt).mp g.deal
theorem perm_range {n : Nat} {v : List Nat} (h1 : v.length = n) (h2 : v.Nodup) (h3 : ∀ x ∈ v, x < n) : v.Perm (List.range n) := perm_of_nodup h2 List.nodup_range fun x => by
  refine ⟨fun h => List.mem_range.mpr (h3 x h), fun h => ?_⟩
  refine Decidable.byContradiction fun z => ?_
  have := nodup_len (l := x :: v) (k := List.range n) (List.nodup_cons.mpr ⟨z, h2⟩) (fun y hy => by
    rcases List.mem_cons.mp hy with rfl | hy
    · exact h
    · exact List.mem_range.mpr (h3 y hy))
  rw [List.length_cons, List.length_range] at this
  omega
theorem perms_few {n : Nat} (h : n ≤ 6) : (perms (List.range n)).length ≤ 720 := by
  have : ∀ k : Fin 7, (perms (List.range k.val)).length ≤ 720 := by decide +kernel
  exact this ⟨n, by omega⟩
theorem Good.deals {rows D : List (List Nat)} {n : Nat} {t : List Nat} (g : Good rows n) (hn : n ≤ 6) (hD : D.Perm (vecs rows)) (ht : IsTurn rows.length t) : Deals rows t D := by
  have ok := g.ok hn
  have hv := hD.trans (vecs_perm (fun r hr => ⟨ok.nd r hr, ok.lt r hr⟩))
  have mem : ∀ d ∈ D, d.length = rows.length ∧ d.Nodup ∧ ∀ x ∈ d, x < rows.length := fun d hd => by
    obtain ⟨h1, h2, h3, _⟩ := mem_comp.mp (hv.mem_iff.mp hd)
    refine ⟨h1, h2, fun x hx => ?_⟩
    have := h3 x hx
    rw [whole_bit] at this
    exact of_decide_eq_true this
  refine ⟨ok.len, fun r hr => (g.row r hr).1, ok.lt, ht, sm_turn ok.nd ht hv, fun d hd => ⟨(mem d hd).1, fun x hx => by have := (mem d hd).2.2 x hx; have := ok.len; omega⟩, ?_⟩
  have h1 := nodup_len (hv.nodup_iff.mpr (comp_nodup ok.nd _)) (k := perms (List.range rows.length)) (fun d hd => mem_perms (perm_range (mem d hd).1 (mem d hd).2.1 (mem d hd).2.2))
  have h2 := perms_few ok.len
  omega
theorem Good.pos {rows D : List (List Nat)} {n : Nat} (g : Good rows n) (hn : n ≤ 6) (hD : D.Perm (vecs rows)) : D ≠ [] := fun z => by
  have ok := g.ok hn
  have hv := hD.trans (vecs_perm (fun r hr => ⟨ok.nd r hr, ok.lt r hr⟩))
  have := g.cnt hn
  rw [z] at hv
  have h2 := hv.length_eq
  unfold Fo.cnt whole at this
  rw [← h2] at this
  exact Nat.lt_irrefl _ this
/-- rows that stand one by one for others, taken in a turn -/
theorem all2_turn {rows bs : List (List Nat)} {R : List Nat → List Nat → Prop} (h : All2 R rows bs) : rows.length = bs.length ∧ ∀ p : Nat, p < rows.length → R (rowOf rows p) (rowOf bs p) := by
  induction h with
  | nil => exact ⟨rfl, fun p z => nomatch z⟩
  | cons a _ ih =>
    refine ⟨congrArg (· + 1) ih.1, fun p hp => ?_⟩
    cases p with
    | zero => exact a
    | succ p => exact ih.2 p (Nat.lt_of_succ_lt_succ hp)
theorem all2_map {R : List Nat → List Nat → Prop} {f g : Nat → List Nat} : ∀ {t : List Nat}, (∀ p ∈ t, R (f p) (g p)) → All2 R (t.map f) (t.map g)
  | [], _ => .nil
  | p :: t, h => .cons (h p List.mem_cons_self) (all2_map fun q hq => h q (List.mem_cons_of_mem _ hq))
theorem six_turn {rows bs : List (List Nat)} {pl t : List Nat} (hp : pl.Perm (List.range 6)) (hb : bs.Perm base6) (h : All2 (fun r b => r.Perm (b.map fun x => pl.getD x 0)) rows bs) (ht : IsTurn rows.length t) : lsd (t.map (rowOf rows)) 63 = 6 := by
  obtain ⟨hl, hr⟩ := all2_turn h
  refine ring_full hp (bs := t.map (rowOf bs)) ?_ (all2_map fun p hp => hr p ((turn_lt ht).mp hp))
  rw [hl] at ht
  exact (turn_perm ht).trans hb
/-! ### the numbers of open things, gathered -/
/-- what is gathered along one dealing -/
structure Wi (w0 : Nat) (t : List Nat) (rows : List (List Nat)) (D : List (List Nat)) (d : List Nat) (j w : Nat) (L : List (List Nat)) : Prop where
  at_ : ∃ m, Sm (t.drop j) (rst rows t j) m L ∧ ∀ k, (w ∣ k ∧ Pw (t.drop j) (rst rows t j) m d k) ↔ (w0 ∣ k ∧ Pw t (t.map (rowOf rows)) (whole rows.length) d k)
  mem : d ∈ L
  sub : ∀ x ∈ L, x ∈ D
theorem Wi.start {w0 : Nat} {t : List Nat} {rows D : List (List Nat)} {d : List Nat} (dd : Deals rows t D) (hd : d ∈ D) : Wi w0 t rows D d 0 w0 D := by
  refine ⟨⟨whole rows.length, ?_, fun k => ?_⟩, hd, fun _ h => h⟩
  · rw [rst_zero, List.drop_zero]; exact dd.sm
  · rw [rst_zero, List.drop_zero]
theorem Wi.step {w0 : Nat} {t : List Nat} {rows D : List (List Nat)} {d : List Nat} {j w q : Nat} {L : List (List Nat)} {r : List Nat} (h : Wi w0 t rows D d j w L) (hq : t[j]? = some q) (hr : rows[q]? = some r) (hn : r.Nodup) :
    ∃ a : Nat, 0 < a ∧ (∃ us : List Nat, us.Nodup ∧ us.length = a ∧ ∀ x, x ∈ us ↔ x ∈ L.map fun e => e.getD q 0) ∧ (∀ k, w0 ∣ k → Pw t (t.map (rowOf rows)) (whole rows.length) d k → w ∣ k ∧ a ∣ k) ∧ Wi w0 t rows D d (j + 1) (Nat.lcm w a) (L.filter (headIs q (d.getD q 0))) := by
  obtain ⟨⟨m, sm, hk⟩, hm, hs⟩ := h
  rw [drop_at hq, rst_at hq hr] at sm hk
  obtain ⟨ho, hc⟩ := sm.head hm
  have he : (d.getD q 0, cnt (rst rows t (j + 1)) (m - 2 ^ d.getD q 0)) ∈ ops r (rst rows t (j + 1)) m := mem_ops.mpr ⟨ho, rfl, hc⟩
  refine ⟨(ops r (rst rows t (j + 1)) m).length, List.length_pos_of_mem he, ⟨(ops r (rst rows t (j + 1)) m).map (·.1), ops_nd hn _ _, List.length_map _, fun x => (sm.heads hn x).symm⟩, fun k h0 hp => ?_, ⟨⟨m - 2 ^ d.getD q 0, sm.step hn ho, fun k => ?_⟩, List.mem_filter.mpr ⟨hm, decide_eq_true rfl⟩, fun x hx => hs x (List.mem_filter.mp hx).1⟩⟩
  · obtain ⟨h1, h2, _⟩ := (hk k).mpr ⟨h0, hp⟩
    exact ⟨h1, h2⟩
  · rw [← hk k]
    constructor
    · rintro ⟨h1, h2⟩
      exact ⟨Nat.dvd_trans (Nat.dvd_lcm_left _ _) h1, Nat.dvd_trans (Nat.dvd_lcm_right _ _) h1, h2⟩
    · rintro ⟨h1, h2, h3⟩
      exact ⟨Nat.lcm_dvd h1 h2, h3⟩
theorem Wi.done {w0 : Nat} {t : List Nat} {rows D : List (List Nat)} {d : List Nat} {w : Nat} {L : List (List Nat)} (h : Wi w0 t rows D d t.length w L) : ∀ k, w ∣ k ↔ (w0 ∣ k ∧ Pw t (t.map (rowOf rows)) (whole rows.length) d k) := fun k => by
  obtain ⟨⟨m, sm, hk⟩, _, _⟩ := h
  rw [← hk k, List.drop_length]
  exact ⟨fun h => ⟨h, True.intro⟩, fun h => h.1⟩
/-- what is gathered in all is lsd, where the turn is even -/
theorem wide_lsd {rows D : List (List Nat)} {t : List Nat} {w p : Nat} (ro : RowsOk rows) (dd : Deals rows t D) (hc : 0 < cnt rows (whole rows.length)) (hp : Pr (t.map (rowOf rows)) (whole rows.length) p) (h : ∀ k, w ∣ k ↔ ∀ d ∈ D, Pw t (t.map (rowOf rows)) (whole rows.length) d k) : lsd (t.map (rowOf rows)) (whole rows.length) = w := by
  have hc' : 0 < cnt (t.map (rowOf rows)) (whole rows.length) := by rw [cnt_perm (turn_perm dd.turn)]; exact hc
  refine eq_of_dvd_iff fun k => ?_
  rw [lsd_dvd, hp.wd hc' k, h k]
  exact (pw_wd (by rw [List.length_map]) (fun r hr => ro.nd r ((turn_perm dd.turn).mem_iff.mp hr)) dd.sm).symm
theorem pw_twelve {rows D : List (List Nat)} {t : List Nat} {n : Nat} (g : Good rows n) (hn : n < 5) (dd : Deals rows t D) : ∀ d ∈ D, Pw t (t.map (rowOf rows)) (whole rows.length) d 12 := by
  have ok := g.ok (by omega)
  have key : ∀ r ∈ t.map (rowOf rows), r.Nodup ∧ ∀ x ∈ r, x < 4 := fun r hr => by
    have hr' := (turn_perm dd.turn).mem_iff.mp hr
    exact ⟨ok.nd r hr', fun x hx => by have := (g.row r hr').2 x hx; omega⟩
  exact (pw_wd (by rw [List.length_map]) (fun r hr => (key r hr).1) dd.sm).mpr (wd_12 key)
/-- six rows, those of the ring beside the full three numbered anew -/
def Six (rows : List (List Nat)) : Prop := ∃ (pl : List Nat) (bs : List (List Nat)), pl.Perm (List.range 6) ∧ bs.Perm base6 ∧ All2 (fun r b => r.Perm (b.map fun x => pl.getD x 0)) rows bs
theorem base6_lt {bs : List (List Nat)} (hb : bs.Perm base6) : ∀ b ∈ bs, b.Nodup ∧ b.length ≤ 3 ∧ ∀ x ∈ b, x < 6 := fun b hb' => by
  have h1 := hb.mem_iff.mp hb'
  have : ∀ b ∈ base6, b.Nodup ∧ b.length ≤ 3 ∧ ∀ x ∈ b, x < 6 := by decide
  exact this b h1
theorem Six.good {rows : List (List Nat)} (h : Six rows) (ha : ∀ r ∈ rows, Asc r) : Good rows 6 := by
  obtain ⟨pl, bs, hp, hb, h⟩ := h
  obtain ⟨hl, hr⟩ := all2_turn h
  have hl6 : rows.length = 6 := by rw [hl, hb.length_eq]; rfl
  have row : ∀ r ∈ rows, ∀ x ∈ r, x < 6 := fun r hr' x hx => by
    obtain ⟨j, hj⟩ := List.mem_iff_getElem?.mp hr'
    have hjl := (List.getElem?_eq_some_iff.mp hj).1
    have h1 := hr j hjl
    rw [rowOf_eq hj] at h1
    obtain ⟨y, hy, rfl⟩ := List.mem_map.mp (h1.mem_iff.mp hx)
    have hbj : bs[j]? = some (rowOf bs j) := by
      unfold rowOf
      rw [List.getD_eq_getElem?_getD, List.getElem?_eq_getElem (by omega)]
      rfl
    exact pm_lt hp ((base6_lt hb _ (List.mem_of_getElem? hbj)).2.2 y hy)
  refine ⟨hl6, fun r hr' => ⟨ha r hr', row r hr'⟩, (deal_cnt (fun r hr' x hx => by rw [hl6]; exact row r hr' x hx)).mpr ?_⟩
  have R : Ren (fun x => pl.getD x 0) 6 rows bs (2 ^ rows.length - 1) 63 := by
    refine ⟨?_, fun x hx => ?_⟩
    · have small := fun b hb' => (base6_lt hb b hb').2.2
      clear hb hl hr hl6 row ha
      induction h with
      | nil => exact .nil
      | cons a _ ih => exact .cons ⟨a, small _ List.mem_cons_self⟩ (ih fun b hb => small b (List.mem_cons_of_mem _ hb))
    · rw [hl6, whole_bit, decide_eq_true (pm_lt hp hx)]
      have e2 := whole_bit 6 x
      rw [decide_eq_true hx] at e2
      exact e2.symm
  rw [R.cnt (fun x y hx hy e => pm_inj hp hx hy e), cnt_perm hb]
  decide
theorem Six.lsd {rows : List (List Nat)} (h : Six rows) {t : List Nat} (ht : IsTurn rows.length t) : Fo.lsd (t.map (rowOf rows)) (whole rows.length) = 6 := by
  obtain ⟨pl, bs, hp, hb, h⟩ := h
  have hl6 : rows.length = 6 := by rw [(all2_turn h).1, hb.length_eq]; rfl
  have := six_turn hp hb h ht
  rw [hl6]
  exact this
theorem all2_snoc {R : List Nat → List Nat → Prop} {a b : List (List Nat)} {x y : List Nat} (h : All2 R a b) (r : R x y) : All2 R (a ++ [x]) (b ++ [y]) := by
  induction h with
  | nil => exact .cons r .nil
  | cons q _ ih => exact .cons q ih
theorem paired_perm {α β : Type} {G : α → β → Prop} {l' l : List α} (h : l'.Perm l) : ∀ {m : List β}, Paired G l m → ∃ m', m'.Perm m ∧ Paired G l' m' := by
  induction h with
  | nil => exact fun k => ⟨_, .refl _, k⟩
  | cons x _ ih =>
    intro m k
    cases k with
    | cons a t =>
      obtain ⟨m', h1, h2⟩ := ih t
      exact ⟨_, h1.cons _, .cons a h2⟩
  | swap x y l =>
    intro m k
    cases k with
    | cons a t =>
      cases t with
      | cons b t => exact ⟨_, .swap _ _ _, .cons b (.cons a t)⟩
  | trans _ _ ih1 ih2 =>
    intro m k
    obtain ⟨m1, h1, h2⟩ := ih2 k
    obtain ⟨m2, h3, h4⟩ := ih1 h2
    exact ⟨m2, h3.trans h1, h4⟩
end Fo
end
section
set_option Elab.async false
set_option linter.all false
set_option maxRecDepth 100000
set_option maxHeartbeats 8000000
set_option pp.maxSteps 900
namespace Fo
open PySem PySem.Spec PyProof.Rows L2 LamX NdefX
/-- the law's state once the rows are made -/
def LawS (K : PySem.W.Frag) (a p c : Addr) (kd : Nat) (k3 : Prop) (σ : L2.St) (H : Hp) : Prop := ∃ (n : Nat) (rows : List (List Nat)) (ra : Addr) (x5 x6 x7 x8 x9 x10 x11 x12 x13 x14 x15 x16 x17 : Option V), σ = [some (.ref a), some (.ref p), some (iV kd), some (iV n), some (.ref ra), x5, x6, x7, x8, x9, x10, x11, x12, x13, x14, x15, x16, x17] ∧
  Pool H p c ∧ TabsN (TPart K) H ∧ Rows H ra rows ∧ Good rows n ∧ 1 ≤ n ∧ n ≤ 6 ∧ (k3 → Six rows)
/-- the law's state once the turn is made -/
def LawG (K : PySem.W.Frag) (a p c tb l ta ra : Addr) (kd n : Nat) (rows : List (List Nat)) (t : List Nat) (D : List (List Nat)) (σ : L2.St) (H : Hp) : Prop := ∃ (x5 x6 x10 x11 x12 x13 x14 x15 x16 x17 : Option V), σ = [some (.ref a), some (.ref p), some (iV kd), some (iV n), some (.ref ra), x5, x6, some (.ref tb), some (.ref l), some (.ref ta), x10, x11, x12, x13, x14, x15, x16, x17] ∧
  Pool H p c ∧ TabsN (TPart K) H ∧ Game K H tb l ta rows t D
theorem dls_ne {H : Hp} {p c l : Addr} {D : List (List Nat)} (h : Dls H l D) (pl : Pool H p c) (hD : D ≠ []) : l ≠ p ∧ l ≠ c := by
  obtain ⟨ws, h1, h2⟩ := h
  obtain ⟨_, sd, ct, cs, e1, e2, _⟩ := pl
  cases D with
  | nil => exact absurd rfl hD
  | cons d D =>
    cases h2 with
    | cons a t =>
      obtain ⟨b, rfl, _⟩ := a
      refine ⟨fun z => ?_, fun z => ?_⟩
      · rw [z, e1] at h1; cases h1
      · rw [z, e2] at h1
        cases cs with
        | nil => cases h1
        | cons y ys => cases h1
theorem lcm_int {w a : Nat} : V.int (((w : Nat) : Int) * ((a : Nat) : Int) / ((Nat.gcd w a : Nat) : Int)) = iV (Nat.lcm w a) := by
  refine congrArg V.int ?_
  rw [← Int.natCast_mul, ← Int.natCast_ediv]
  rfl
def spLaw (K : PySem.W.Frag) : Sp := fun vs H Q _ => ∃ (a : Addr) (ns : List Int), vs = [.ref a] ∧ SqL K H a (ns.map V.int) ∧ ns.length ≤ 63 ∧ TabsN (TPart K) H ∧ ∀ H', Q (.bl true) H'
section
variable {P : Program} {w : World} {K : PySem.W.Frag} {mg : Str → Option Value} {base : Heap}
theorem D_law (T : Hd K mg) (TX : Hx K mg) (TY : Hy K) (TT : Ht K) (TB : TabB base mg (He.cT K kPart).1 (He.cT K kPart).2) (DM : ∀ {w : World} {base : Heap}, Fn P w K mg base (L2N.CX P w) 3 "check_many" (spManyC K)) {fd : FuncData} (F : FunD K "law" "law" (defArgs s_law) (defBody s_law) (defScope s_law) [] [] (He.ga K "law") fd) : FnOk P w K mg base CX0 37 (He.ga K "law") fd ["_law_script"] (spLaw K) := by
  have D_even_sides := fun {w base} => D_even_sides (P := P) (w := w) (base := base) T TX DM
  have D_is_even := fun {P w base} => D_is_even (P := P) (w := w) (base := base) T TX TY
  have D_law_pool := fun {P w base} => D_law_pool (P := P) (w := w) (base := base) T
  have D_law_draw := fun {P w base} => D_law_draw (P := P) (w := w) (base := base) T
  have D_law_mixed := fun {P w base} => D_law_mixed (P := P) (w := w) (base := base) T
  have D_law_rows := fun {P w base} => D_law_rows (P := P) (w := w) (base := base) T
  have D_law_wide_rows := fun {P w base} => D_law_wide_rows (P := P) (w := w) (base := base) T
  have D_law_all := fun {P w base} => D_law_all (P := P) (w := w) (base := base) T
  have D_law_divisor := fun {P w base} => D_law_divisor (P := P) (w := w) (base := base) T
  have D_names := fun {P w base} => D_names (P := P) (w := w) (base := base) T
  have D_Table_init := fun {P w base} => D_Table_init (P := P) (w := w) (base := base) T
  have D_law_sides_right := fun {w base} => D_law_sides_right (P := P) (w := w) (base := base) T TX DM
  have D_law_drawers_right := D_law_drawers_right (P := P) (w := w) (base := base) T TX TB DM
  have D_law_refused := fun {w base} => D_law_refused (P := P) (w := w) (base := base) T TX TT DM
  refine F.ok sc_law (fun vs H Q E h => ?_) (fun cdv A outer s H vs Q E hr h => ⟨_, PSs.nox (pss_cons (ps_set (i := 1) sc_law.nd rfl (.inl rfl) (pe_fn D_law_pool (hr.mono (by first | decide | omega)) rfl pass0 (pa_cons (pv 0) pa_nil)))
      (pss_cons (ps_set (i := 2) sc_law.nd rfl (.inl rfl) (pe_fn D_law_draw (hr.mono (by first | decide | omega)) rfl pass0 (pa_cons (pv 1) (pa_cons pe_int pa_nil))))
      (pss_cons (ps_set (i := 3) sc_law.nd rfl (.inl rfl) (pe_op op_add pe_int (pe_fn D_law_draw (hr.mono (by first | decide | omega)) rfl pass0 (pa_cons (pv 1) (pa_cons pe_int pa_nil)))))
      (pss_mid (ps_if (pt_cmpR op_eq (pv 2) pe_int (nomark _))
        (pss_one (ps_set (i := 3) sc_law.nd rfl (.inl rfl) pe_int))
        pss_nil)
      (pss_cons (ps_set (i := 4) sc_law.nd rfl (.inl rfl) (pe_fn D_law_rows (hr.mono (by first | decide | omega)) rfl pass0 (pa_cons (pv 1) (pa_cons (pv 3) pa_nil))))
      (pss_mid (ps_if (pt_cmpR op_eq (pv 2) pe_int (nomark _))
        (pss_cons (ps_set (i := 3) sc_law.nd rfl (.inl rfl) pe_int)
        (pss_one (ps_set (i := 4) sc_law.nd rfl (.inl rfl) (pe_fld (pe_fn D_names (hr.mono (by first | decide | omega)) rfl pass0 (pa_cons pe_int pa_nil)) rfl))))
        pss_nil)
      (pss_mid (ps_if (pt_cmpR op_eq (pv 2) pe_int (nomark _))
        (pss_cons (ps_set (i := 3) sc_law.nd rfl (.inl rfl) (pe_op op_add pe_int (pe_fn D_law_draw (hr.mono (by first | decide | omega)) rfl pass0 (pa_cons (pv 1) (pa_cons pe_int pa_nil)))))
        (pss_one (ps_set (i := 4) sc_law.nd rfl (.inl rfl) (pe_fn D_law_wide_rows (hr.mono (by first | decide | omega)) rfl pass0 (pa_cons (pv 1) (pa_cons (pv 3) pa_nil))))))
        pss_nil)
      (pss_mid (ps_if (pt_cmpR op_eq (pv 2) pe_int (nomark _))
        (pss_cons (ps_set (i := 3) sc_law.nd rfl (.inl rfl) pe_int)
        (pss_cons (ps_set (i := 5) sc_law.nd rfl (.inr rfl) (pe_fn D_law_mixed (hr.mono (by first | decide | omega)) rfl pass0 (pa_cons (pv 1) (pa_cons (pe_listRg rfl rfl T.f_list (prg_1 rfl T.f_range pe_int)) pa_nil))))
        (pss_cons (ps_set (i := 6) sc_law.nd rfl (.inl rfl) (pe_fn D_law_mixed (hr.mono (by first | decide | omega)) rfl pass0 (pa_cons (pv 1) (pa_cons (pe_lst (pa_cons (pe_tup (pa_cons pe_int (pa_cons pe_int pa_nil))) (pa_cons (pe_tup (pa_cons pe_int (pa_cons pe_int pa_nil))) (pa_cons (pe_tup (pa_cons pe_int (pa_cons pe_int pa_nil))) (pa_cons (pe_tup (pa_cons pe_int (pa_cons pe_int (pa_cons pe_int pa_nil)))) (pa_cons (pe_tup (pa_cons pe_int (pa_cons pe_int (pa_cons pe_int pa_nil)))) (pa_cons (pe_tup (pa_cons pe_int (pa_cons pe_int (pa_cons pe_int pa_nil)))) pa_nil))))))) pa_nil))))
        (pss_one (ps_set (i := 4) sc_law.nd rfl (.inl rfl) (pe_callTy call_tuple_of rfl T.f_tuple bt_tuple (pa_cons (pe_lc (own := [("_law_row", 15)]) rfl sc_law.nd (pi_list (pv 6)) (blkOk_by (own := [("_law_row", 15)]) (N := n_law) (sc := defScope s_law) (by decide +kernel)) (fun _ _ _ _ _ => (pg_name (i := 15) sc_law.nd rfl (.inl rfl))) (fun _ _ _ _ _ => pts_nil) (fun _ _ _ _ _ => (pe_callTy (call_tuple_ofK (K := K)) rfl T.f_tuple bt_tuple (pa_cons (pe_callB (cr_sortedK (K := K)) rfl T.f_sorted bt_sorted (pa_cons (pe_lc (own := [("_law_thing", 16)]) rfl sc_law.nd (pi_tupK (K := K) (pv 15)) (blkOk_by (own := [("_law_thing", 16)]) (N := n_law) (sc := ({ kind := .function, names := [((".0" : PySem.Str), .local), (("_law_row" : PySem.Str), .local), (("tuple" : PySem.Str), .globalImplicit), (("sorted" : PySem.Str), .globalImplicit), (("_law_places" : PySem.Str), .cell)], isGenerator := false, isCoroutine := false } : Scope)) (by decide +kernel)) (fun _ _ _ _ _ => (pg_name (i := 16) sc_law.nd rfl (.inl rfl))) (fun _ _ _ _ _ => pts_nil) (fun _ _ _ _ _ => (pe_ix (ix_listK (K := K)) (pv 5) (pv 16) (fun _ _ => rfl)))) pa_nil)) pa_nil)))) pa_nil)))))))
        pss_nil)
      (pss_cons (ps_set (i := 7) sc_law.nd rfl (.inl rfl) (pe_mkc D_Table_init (hr.mono (by first | decide | omega)) rfl pass0 (pa_cons (pv 4) pa_nil)))
      (pss_cons (ps_set (i := 8) sc_law.nd rfl (.inl rfl) (pe_fn D_law_all (hr.mono (by first | decide | omega)) rfl pass0 (pa_cons (pv 4) pa_nil)))
      (pss_cons (ps_set (i := 9) sc_law.nd rfl (.inl rfl) (pe_callTy call_tuple_of rfl T.f_tuple bt_tuple (pa_cons (pe_fn D_law_mixed (hr.mono (by first | decide | omega)) rfl pass0 (pa_cons (pv 1) (pa_cons (pe_listRg rfl rfl T.f_list (prg_1 rfl T.f_range (pv 3))) pa_nil))) pa_nil)))
      (pss_mid (ps_if (PW.pt (pw_and (pt_cmpR op_eq (pv 2) pe_int (nomark _)) (pw_and1 (PW.pt (pw_or (pt_cmpR op_ne (pe_fn D_even_sides (hr.mono (by first | decide | omega)) rfl passN (pa_cons (pv 7) (pa_cons (pv 9) pa_nil))) pe_int (nomark _)) (pw_or1 (pt_not (pt_val (pe_fn D_law_drawers_right (hr.mono (by first | decide | omega)) rfl pass0 (pa_cons (pv 1) (pa_cons (pv 7) (pa_cons (pv 8) (pa_cons (pv 9) pa_nil)))))))))))))
        (pss_one (ps_ret pe_bl))
        pss_nil)
      (pss_mid (ps_if (PW.pt (pw_or (pt_not (pt_val (pe_fn D_law_sides_right (hr.mono (by first | decide | omega)) rfl pass0 (pa_cons (pv 7) (pa_cons (pv 8) (pa_cons (pv 9) pa_nil)))))) (pw_or1 (pt_not (pt_val (pe_fn D_law_sides_right (hr.mono (by first | decide | omega)) rfl pass0 (pa_cons (pv 7) (pa_cons (pv 8) (pa_cons (pe_revT (pv 9)) pa_nil)))))))))
        (pss_one (ps_ret pe_bl))
        pss_nil)
      (pss_mid (ps_if (PW.pt (pw_and (pt_cmpR op_lt (pv 3) pe_int (nomark _)) (pw_and1 (pt_not (pt_val (pe_fn D_law_drawers_right (hr.mono (by first | decide | omega)) rfl pass0 (pa_cons (pv 1) (pa_cons (pv 7) (pa_cons (pv 8) (pa_cons (pv 9) pa_nil))))))))))
        (pss_one (ps_ret pe_bl))
        pss_nil)
      (pss_mid (ps_if (PW.pt (pw_and (pt_val (pe_fn D_is_even (hr.mono (by first | decide | omega)) rfl pass0 (pa_cons (pv 7) (pa_cons (pv 9) (pa_cons pe_str pa_nil))))) (pw_and1 (pt_cmpR op_lt (pv 3) pe_int (nomark _)))))
        (pss_cons (ps_set (i := 10) sc_law.nd rfl (.inl rfl) pe_int)
        (pss_cons (ps_for PassesOwn.never rfl (pi_list (pv 8)) (pg_name (i := 11) sc_law.nd rfl (.inr rfl))
          (pss_cons (ps_set (i := 12) sc_law.nd rfl (.inl rfl) (pv 8))
          (pss_one (ps_for PassesOwn.never rfl (pi_tup (pv 9)) (pg_name (i := 13) sc_law.nd rfl (.inr rfl))
            (pss_cons (ps_set (i := 14) sc_law.nd rfl (.inl rfl) (pe_callB cr_lenSet rfl T.f_len bt_len (pa_cons (pe_callTy (cr_setLK (K := K) (w := w) rfl) rfl T.f_set bt_set (pa_cons (pe_lc (own := [("_law_other", 17)]) rfl sc_law.nd (pi_list (pv 12)) (blkOk_by (own := [("_law_other", 17)]) (N := n_law) (sc := defScope s_law) (by decide +kernel)) (fun _ _ _ _ _ => (pg_name (i := 17) sc_law.nd rfl (.inl rfl))) (fun _ _ _ _ _ => pts_nil) (fun _ _ _ _ _ => (pe_ix (ix_tupK (K := K)) (pv 17) (pv 13) (fun _ _ => rfl)))) pa_nil)) pa_nil)))
            (pss_cons (ps_set (i := 10) sc_law.nd rfl (.inl rfl) (pe_op op_fdiv (pe_op op_mul (pv 10) (pv 14)) (pe_fn D_law_divisor (hr.mono (by first | decide | omega)) rfl pass0 (pa_cons (pv 10) (pa_cons (pv 14) pa_nil)))))
            (pss_one (ps_setLc (i := 12) (own := [("_law_other", 17)]) rfl sc_law.nd rfl rfl (sw_true rfl rfl rfl (by decide +kernel)) (pi_list (pv 12)) (blkOk_by (own := [("_law_other", 17)]) (N := n_law) (sc := defScope s_law) (by decide +kernel)) (fun _ _ _ _ _ => (pg_name (i := 17) sc_law.nd rfl (.inl rfl))) (fun _ _ _ _ _ => (pts_one (pt_cmpR op_eq (pe_ix (ix_tupK (K := K)) (pv 17) (pv 13) (fun _ _ => rfl)) (pe_ix (ix_tupK (K := K)) (pv 11) (pv 13) (fun _ _ => rfl)) (nomark _)))) (fun _ _ _ _ _ => (pv 17))))))))))
        (pss_one (ps_if (pt_cmpR op_ne (pe_fn D_even_sides (hr.mono (by first | decide | omega)) rfl passN (pa_cons (pv 7) (pa_cons (pv 9) pa_nil))) (pv 10) (nomark _))
          (pss_one (ps_ret pe_bl))
          pss_nil))))
        pss_nil)
      (pss_one (ps_ret (pe_fn D_law_refused (hr.mono (by first | decide | omega)) rfl pass0 (pa_cons (pv 1) (pa_cons (pv 3) pa_nil)))))))))))))))))))), ?_⟩)
  · obtain ⟨_, _, rfl, _⟩ := h; rfl
  · obtain ⟨a, ns, rfl, ha, hns, htb, q⟩ := h
    refine ⟨_, rfl, a, ns, rfl, ha, hns, fun H1 p c hp0 hc0 s1 pl1 => ?_⟩
    refine ⟨_, rfl, p, c, 24, rfl, pl1, by decide, by decide, fun H2 kd hkd sm2 pl2 => ?_⟩
    refine ⟨_, rfl, p, c, 4, rfl, pl2, by decide, by decide, fun H3 sz hsz sm3 pl3 => ⟨_, _, rfl, rfl, ?_⟩⟩
    have t3 := tabs_smP (tabs_smP (Same.tabs s1 htb) pl1 sm2) pl2 sm3
    refine ⟨fun σ' H' => ∃ n : Nat, 1 ≤ n ∧ n ≤ 5 ∧ H' = H3 ∧ σ' = List.set (((L2.start n_law [V.ref a]).set 1 (some (.ref p))).set 2 (some (iV kd))) 3 (some (iV n)), ?_, ?_⟩
    · refine ⟨_, rfl, rfl, decide (kd = 0), congrArg V.bl (decide_eq_decide.mpr ⟨fun z => by injection z with z; omega, fun z => by rw [z]; rfl⟩), ?_⟩
      by_cases k0 : kd = 0
      · rw [decide_eq_true k0]
        exact iteT ⟨5, by decide, by decide, rfl, rfl⟩
      · rw [decide_eq_false k0]
        exact iteF ⟨1 + sz, by omega, by omega, rfl, rfl⟩
    rintro σ H' ⟨n, hn1, hn5, rfl, rfl⟩
    refine ⟨_, rfl, _, rfl, p, c, n, rfl, pl3, hn1, by omega, fun H4 ra rows sm4 pl4 hrw g => ?_⟩
    have t4 := tabs_smP t3 pl3 sm4
    refine ⟨LawS K a p c kd False, ?_, ?_⟩
    · refine ⟨_, rfl, rfl, decide (kd = 1), congrArg V.bl (decide_eq_decide.mpr ⟨fun z => by injection z with z; omega, fun z => by rw [z]; rfl⟩), ?_⟩
      by_cases k0 : kd = 1
      · rw [decide_eq_true k0]
        refine iteT ⟨6, rfl, by decide, by decide, fun H5 tb _ s5 tab => ?_⟩
        obtain ⟨C, dx, rb, g1, hC, nr, _, hrw5⟩ := tab.rd T
        exact ⟨tb, C, dx, _, _, rfl, g1, hC, nr, rfl, 6, rowsNames 6, rb, _, _, _, _, _, _, _, _, _, _, _, _, _, rfl, pl4.at (fun u e => s5 _ _ e) (fun u e => s5 _ _ e), Same.tabs s5 t4, hrw5, names_good (by decide), by decide, by decide, fun z => z.elim⟩
      · rw [decide_eq_false k0]
        exact iteF ⟨n, rows, ra, _, _, _, _, _, _, _, _, _, _, _, _, _, rfl, pl4, t4, hrw, g, hn1, by omega, fun z => z.elim⟩
    clear g hrw
    rintro σ H ⟨n, rows, ra, x5, x6, x7, x8, x9, x10, x11, x12, x13, x14, x15, x16, x17, rfl, pl, tn, hrw, g, hn1, hn6, _⟩
    refine ⟨LawS K a p c kd False, ?_, ?_⟩
    · refine ⟨_, rfl, rfl, decide (kd = 2), congrArg V.bl (decide_eq_decide.mpr ⟨fun z => by injection z with z; omega, fun z => by rw [z]; rfl⟩), ?_⟩
      by_cases k0 : kd = 2
      · rw [decide_eq_true k0]
        refine iteT ⟨_, rfl, p, c, 2, rfl, pl, by decide, by decide, fun H5 d hd sm5 pl5 => ⟨_, _, rfl, rfl, ?_⟩⟩
        refine ⟨_, rfl, _, rfl, p, c, 5 + d, rfl, pl5, by omega, by omega, fun H6 rb rows2 sm6 pl6 hrw6 g6 => ?_⟩
        exact ⟨5 + d, rows2, rb, _, _, _, _, _, _, _, _, _, _, _, _, _, rfl, pl6, tabs_smP (tabs_smP tn pl sm5) pl5 sm6, hrw6, g6, by omega, by omega, fun z => z.elim⟩
      · rw [decide_eq_false k0]
        exact iteF ⟨n, rows, ra, _, _, _, _, _, _, _, _, _, _, _, _, _, rfl, pl, tn, hrw, g, hn1, hn6, fun z => z.elim⟩
    clear g hrw pl tn hn1 hn6
    rintro σ H ⟨n, rows, ra, x5, x6, x7, x8, x9, x10, x11, x12, x13, x14, x15, x16, x17, rfl, pl, tn, hrw, g, hn1, hn6, _⟩
    refine ⟨LawS K a p c kd (kd = 3), ?_, ?_⟩
    · refine ⟨_, rfl, rfl, decide (kd = 3), congrArg V.bl (decide_eq_decide.mpr ⟨fun z => by injection z with z; omega, fun z => by rw [z]; rfl⟩), ?_⟩
      by_cases k0 : kd = 3
      · rw [decide_eq_true k0]
        refine iteT ?_
        refine ⟨_, rfl, _, rfl, RgOk.of_le (by decide) (by decide) (by decide) (by decide), fun a1 ha1 => ?_⟩
        have sa1 := Same.new (o := .lst (rgV 0 ((6 : Nat) : Int))) ha1
        have ne1 : a1 ≠ p ∧ a1 ≠ c := by
          obtain ⟨⟨xp, ep⟩, xc, ec⟩ := pl.ls
          exact ⟨(ne_of_none ep ha1).symm, (ne_of_none ec ha1).symm⟩
        have pla : Pool (upd H a1 (.lst (rgV 0 ((6 : Nat) : Int)))) p c := pl.at (fun u e => sa1 _ _ e) (fun u e => sa1 _ _ e)
        refine ⟨p, c, a1, (List.range 6).map iV, rfl, pla, ne1.1, ne1.2, (upd_same.trans (congrArg (fun z => some (HO.lst z)) (rg0 6))), by decide, fun Hp pa ys hperm hpa0 smp plp hpa => ?_⟩
        obtain ⟨pls, rfl, hpls⟩ := mixed_nats hperm
        have pa0 := same_none sa1 hpa0
        refine ⟨_, rfl, sz2, fun e1 he1 => ⟨sz2, fun e2 he2 => ⟨sz2, fun e3 he3 => ⟨(show 3 ≤ sizeLine by rw [sizeLine_eq]; omega), fun e4 he4 => ⟨(show 3 ≤ sizeLine by rw [sizeLine_eq]; omega), fun e5 he5 => ⟨(show 3 ≤ sizeLine by rw [sizeLine_eq]; omega), fun e6 he6 => ⟨(show 6 ≤ sizeLine by rw [sizeLine_eq]; omega), fun ol hol => ?_⟩⟩⟩⟩⟩⟩⟩
        have q6 := Same.new (o := .tup ([3, 4, 5].map iV)) he6
        have q5 := Same.trans (Same.new (o := .tup ([3, 4, 5].map iV)) he5) q6
        have q4 := Same.trans (Same.new (o := .tup ([3, 4, 5].map iV)) he4) q5
        have q3 := Same.trans (Same.new (o := .tup ([0, 2].map iV)) he3) q4
        have q2 := Same.trans (Same.new (o := .tup ([1, 2].map iV)) he2) q3
        have q1 := Same.trans (Same.new (o := .tup ([0, 1].map iV)) he1) q2
        have qo := Same.new (o := .lst [V.ref e1, .ref e2, .ref e3, .ref e4, .ref e5, .ref e6]) hol
        have x1 := qo _ _ (q2 _ _ (upd_same (o := .tup ([0, 1].map iV))))
        have x2 := qo _ _ (q3 _ _ (upd_same (o := .tup ([1, 2].map iV))))
        have x3 := qo _ _ (q4 _ _ (upd_same (o := .tup ([0, 2].map iV))))
        have x4 := qo _ _ (q5 _ _ (upd_same (o := .tup ([3, 4, 5].map iV))))
        have x5' := qo _ _ (q6 _ _ (upd_same (o := .tup ([3, 4, 5].map iV))))
        have x6' := qo _ _ (upd_same (o := .tup ([3, 4, 5].map iV)))
        have sq := Same.trans q1 qo
        have olp := same_none q1 hol
        clear q1 q2 q3 q4 q5 q6 qo
        generalize eHq : upd _ ol (.lst [V.ref e1, .ref e2, .ref e3, .ref e4, .ref e5, .ref e6]) = Hq at x1 x2 x3 x4 x5' x6' sq ⊢
        have xo : Hq ol = some (.lst [V.ref e1, .ref e2, .ref e3, .ref e4, .ref e5, .ref e6]) := by rw [← eHq]; exact upd_same
        clear eHq
        have plq : Pool Hq p c := plp.at (fun u e => sq _ _ e) (fun u e => sq _ _ e)
        have neo : ol ≠ p ∧ ol ≠ c := by
          obtain ⟨⟨xp, ep⟩, xc, ec⟩ := plp.ls
          exact ⟨(ne_of_none ep olp).symm, (ne_of_none ec olp).symm⟩
        have nepa : pa ≠ p ∧ pa ≠ c := by
          obtain ⟨⟨xp, ep⟩, xc, ec⟩ := pla.ls
          exact ⟨(ne_of_none ep hpa0).symm, (ne_of_none ec hpa0).symm⟩
        refine ⟨p, c, ol, [V.ref e1, .ref e2, .ref e3, .ref e4, .ref e5, .ref e6], rfl, plq, neo.1, neo.2, xo, by show 6 ≤ 100; decide, fun Hr oa ys hperm2 hoa0 smr plr hoa => ?_⟩
        have tb6 : Tups Hr [V.ref e1, .ref e2, .ref e3, .ref e4, .ref e5, .ref e6] (base6.map fun (b : List Nat) => b.map iV) := by
          have kr := smr.kl plq
          exact .cons ⟨_, rfl, kr.at x1 (fun _ z => nomatch z)⟩ (.cons ⟨_, rfl, kr.at x2 (fun _ z => nomatch z)⟩ (.cons ⟨_, rfl, kr.at x3 (fun _ z => nomatch z)⟩ (.cons ⟨_, rfl, kr.at x4 (fun _ z => nomatch z)⟩ (.cons ⟨_, rfl, kr.at x5' (fun _ z => nomatch z)⟩ (.cons ⟨_, rfl, kr.at x6' (fun _ z => nomatch z)⟩ .nil)))))
        have hpar := smr _ _ nepa.1 nepa.2 (sq _ _ hpa)
        have pb6 : Paired (fun v (b : List Nat) => ∃ e, v = V.ref e ∧ Hr e = some (.tup (b.map iV))) [V.ref e1, .ref e2, .ref e3, .ref e4, .ref e5, .ref e6] base6 := by
          cases tb6 with
          | cons a1 t1 => cases t1 with
            | cons a2 t2 => cases t2 with
              | cons a3 t3 => cases t3 with
                | cons a4 t4 => cases t4 with
                  | cons a5 t5 => cases t5 with
                    | cons a6 t6 => exact .cons a1 (.cons a2 (.cons a3 (.cons a4 (.cons a5 (.cons a6 .nil)))))
        obtain ⟨bs, hbs, pbs⟩ := paired_perm hperm2 pb6
        have bl6 : bs.length = 6 := by rw [hbs.length_eq]; rfl
        have yl6 : ys.length = 6 := by rw [Paired.length pbs, bl6]
        refine ⟨_, rfl, oa, rfl, ⟨_, SqL.of hoa⟩, fun D hD => ?_⟩
        refine lc_same walk_list hD (fun j acc H => ∃ rows : List (List Nat), Tups H acc (rows.map fun (r : List Nat) => r.map iV) ∧ All2 (fun (r b : List Nat) => r.Perm (b.map fun x => pls.getD x 0)) rows (bs.take j) ∧ ∀ r ∈ rows, Asc r) (by rw [yl6]; exact small1000 (by omega)) (fun H' k => SqL.of (k _ _ hoa)) (fun i acc H H' ys hd k ⟨rows, a, b⟩ => ⟨rows, Tups.x a k (fun xs z => by rw [hd] at z; cases z), b⟩) ⟨[], .nil, .nil, fun r z => nomatch z⟩ ?_ ?_
        · rintro j v H6 H' acc Fin Skip hj hla k ⟨rows, rt, rl, rm⟩ ⟨rfl, yy⟩ fin skip
          obtain ⟨b, hbj, e, rfl, he⟩ := paired_get pbs yy
          obtain ⟨bnd, bl, blt⟩ := base6_lt hbs b (List.mem_of_getElem? hbj)
          refine ⟨rfl, _, rfl, e, rfl, ⟨_, SqT.of (k _ _ he)⟩, fun D2 hD2 => ?_⟩
          refine lc_same walk_tup hD2 (fun i acc2 _ => acc2 = (b.take i).map fun y => iV (pls.getD y 0)) (by rw [List.length_map]; exact small1000 (by omega)) (fun H' k2 => SqT.of (k2 _ _ (k _ _ he))) (fun _ _ _ _ _ _ _ h => h) rfl ?_ ?_
          · rintro i v H7 H'' acc2 Fin2 Skip2 hi2 hla2 k2 rr ⟨rfl, yy2⟩ fin2 skip2
            obtain ⟨y, hy, rfl⟩ := map_at yy2
            have hyn := blt y (List.mem_of_getElem? hy)
            refine ⟨rfl, _, rfl, _, rfl, pa, _, _, _, rfl, rfl, SqL.of (k2 _ _ (k _ _ hpar)), atI_nat (by rw [List.getElem?_map, pm_get hpls hyn]; rfl), fin2 _ _ (Same.refl _) ?_⟩
            rw [rr, take_snoc hy, List.map_append]; rfl
          · intro H7 acc2 k2 hla2 hacc2 rr2
            rw [List.length_map, List.take_length] at rr2
            refine ⟨D2, (b.map fun y => pls.getD y 0).map fun (n : Nat) => (n : Int), rfl, SqL.of (by rw [hacc2, rr2, List.map_map, List.map_map]; rfl), by rw [List.length_map, List.length_map]; omega, fun ms sp hperm hpw hsp => ?_⟩
            obtain ⟨ms, rfl, hpm⟩ := nat_list hperm
            have sn := Same.new (o := .lst ((ms.map fun (n : Nat) => (n : Int)).map V.int)) hsp
            have hnd : (b.map fun y => pls.getD y 0).Nodup := List.pairwise_map.mpr (List.Pairwise.imp_of_mem (fun {x y} hx hy hab z => hab (pm_inj hpls (blt x hx) (blt y hy) z)) bnd)
            refine ⟨sp, _, rfl, .inl ⟨SqL.of upd_same, fun tp htp => fin _ _ (Same.trans k2 (Same.trans sn (Same.new htp))) ⟨rows ++ [ms], ?_, ?_, fun r hr => ?_⟩⟩⟩
            · rw [List.map_append]
              exact Tups.snoc (((rt.same k2).same sn).same (Same.new htp)) (by rw [upd_same, List.map_map]; rfl)
            · rw [take_snoc hbj]
              exact all2_snoc rl hpm
            · rcases List.mem_append.mp hr with hr | hr
              · exact rm r hr
              · rw [List.mem_singleton.mp hr]
                exact asc_of_le hpw (hpm.nodup_iff.mpr hnd)
        rintro H6 acc k hla hacc ⟨rows, rt, rl, rm⟩
        rw [yl6, List.take_of_length_le (by omega)] at rl
        have six : Six rows := ⟨pls, bs, hpls, hbs, rl⟩
        refine ⟨D, acc, rfl, .inl ⟨SqL.of hacc, fun tp htp => ?_⟩⟩
        have skt := Same.trans k (Same.new (o := .tup acc) htp)
        exact ⟨6, rows, tp, _, _, _, _, _, _, _, _, _, _, _, _, _, rfl, plr.at (fun u e => skt _ _ e) (fun u e => skt _ _ e), Same.tabs skt (tabs_smP (Same.tabs sq (tabs_smP (Same.tabs sa1 tn) pla smp)) plq smr), ⟨acc, upd_same, (rt.same (Same.new htp))⟩, six.good rm, by decide, by decide, fun _ => six⟩
      · rw [decide_eq_false k0]
        exact iteF ⟨n, rows, ra, _, _, _, _, _, _, _, _, _, _, _, _, _, rfl, pl, tn, hrw, g, hn1, hn6, fun z => absurd z k0⟩
    clear g hrw pl tn hn1 hn6
    rintro σ H ⟨n, rows, ra, x5, x6, x7, x8, x9, x10, x11, x12, x13, x14, x15, x16, x17, rfl, pl, tn, hrw, g, hn1, hn6, hsix⟩
    -- the table, its dealings, the turn
    have hlen := g.len
    refine ⟨_, rfl, fun tb dx htb' hdx _ => ⟨tb, dx, ra, rows, rfl, upd_same, hrw.same (fun b u e => by rw [upd_ne (ne_of_none e htb'), upd_ne (ne_of_none e hdx)]; exact e), by omega, by omega, fun r hr => by rw [hlen]; exact g.row r hr, fun HA sx tab => ⟨rfl, ?_⟩⟩⟩
    have sA := made_same htb' hdx sx
    refine ⟨_, rfl, ra, rows, rfl, hrw.same sA, by omega, by omega, fun r hr => by have := g.few r hr; omega, fun HB l D hD sB dls => ?_⟩
    have sAB := Same.trans sA sB
    have plB : Pool HB p c := pl.at (fun u e => sAB _ _ e) (fun u e => sAB _ _ e)
    obtain ⟨lp, lc⟩ := dls_ne dls plB (g.pos hn6 hD)
    refine ⟨_, rfl, _, rfl, _, rfl, RgOk.of_le (by omega) (by omega) (by omega) (by omega), fun a1 ha1 => ?_⟩
    have sa1 := Same.new (o := .lst (rgV 0 ((n : Nat) : Int))) ha1
    have ne1 : a1 ≠ p ∧ a1 ≠ c := by
      obtain ⟨⟨xp, ep⟩, xc, ec⟩ := plB.ls
      exact ⟨(ne_of_none ep ha1).symm, (ne_of_none ec ha1).symm⟩
    have pl1' : Pool (upd HB a1 (.lst (rgV 0 ((n : Nat) : Int)))) p c := plB.at (fun u e => sa1 _ _ e) (fun u e => sa1 _ _ e)
    refine ⟨p, c, a1, (List.range n).map iV, rfl, pl1', ne1.1, ne1.2, by rw [upd_same, rg0], by rw [List.length_map, List.length_range]; omega, fun HC lt ys hperm hlt0 smt plt hlt => ?_⟩
    obtain ⟨t, rfl, ht⟩ := mixed_nats hperm
    have ht : IsTurn rows.length t := by rw [hlen]; exact ht
    refine ⟨lt, _, rfl, .inl ⟨SqL.of hlt, fun ta hta => ?_⟩⟩
    have sta := Same.new (o := .tup (t.map iV)) hta
    have hta' : upd HC ta (.tup (t.map iV)) ta = some (.tup (t.map iV)) := upd_same
    have tnC : TabsN (TPart K) (upd HC ta (.tup (t.map iV))) := Same.tabs sta (tabs_smP (Same.tabs sa1 (Same.tabs sAB tn)) pl1' smt)
    have plC : Pool (upd HC ta (.tup (t.map iV))) p c := plt.at (fun u e => sta _ _ e) (fun u e => sta _ _ e)
    have gm : Game K (upd HC ta (.tup (t.map iV))) tb l ta rows t D := by
      obtain ⟨ws, w1, w2⟩ := dls
      have kt := smt.kl pl1'
      refine ⟨(((tab.same sB).same sa1).kl kt).same sta, g.ok hn6, g.sml hn6, g.deals hn6 hD ht, by omega, g.cnt hn6, ⟨ws, sta _ _ (smt _ _ lp lc (sa1 _ _ w1)), (((w2.same sa1).kl kt).same sta)⟩, hta'⟩
    have gmk : ∀ {H'}, KG p c (upd HC ta (.tup (t.map iV))) H' → True := fun _ => True.intro
    generalize upd HC ta (.tup (t.map iV)) = HD at hta' tnC plC gm ⊢
    -- a ring of three beside a full three
    refine ⟨LawG K a p c tb l ta ra kd n rows t D, ?_, ?_⟩
    · refine ⟨_, rfl, rfl, decide (kd = 3), congrArg V.bl (decide_eq_decide.mpr ⟨fun z => by injection z with z; omega, fun z => by rw [z]; rfl⟩), ?_⟩
      by_cases k3 : kd = 3
      · rw [decide_eq_true k3]
        refine iteT ⟨_, rfl, _, rfl, tb, rows, .ref ta, rfl, gm.tab, by omega, gm.sml, .inl ⟨t, ⟨ta, rfl, gm.turn, gm.dd.turn⟩, gm.ro, gm.pos, gm.cnt, fun H5 s5 => ?_⟩⟩
        rw [(hsix k3).lsd gm.dd.turn, if_pos (by decide)]
        have pl5 : Pool H5 p c := plC.at (fun u e => s5 _ _ e) (fun u e => s5 _ _ e)
        have gm5 := gm.same s5
        refine ⟨rfl, false, congrArg V.bl (by rw [decide_eq_true (show iV 6 = V.int 6 from rfl)]; rfl), iteF ?_⟩
        refine ⟨_, rfl, _, rfl, _, rfl, _, rfl, p, c, tb, l, ta, rows, t, D, rfl, pl5, lp, lc, gm5, Same.tabs s5 tnC, fun H6 kg pl6 tn6 => ⟨true, rfl, iteF ?_⟩⟩
        exact ⟨_, _, _, _, _, _, _, _, _, _, rfl, pl6, tn6, gm5.kg pl5 ⟨lp, lc⟩ kg⟩
      · rw [decide_eq_false k3]
        exact iteF (iteF ⟨_, _, _, _, _, _, _, _, _, _, rfl, plC, tnC, gm⟩)
    clear gmk gm plC tnC hta'
    rintro σ HD ⟨x5, x6, x10, x11, x12, x13, x14, x15, x16, x17, rfl, plC, tnC, gm⟩
    -- the sides, in the turn and in the turn turned about
    refine ⟨LawG K a p c tb l ta ra kd n rows t D, ?_, ?_⟩
    · refine ⟨_, rfl, _, rfl, _, rfl, tb, l, ta, rows, t, D, rfl, gm, fun H5 s5 => ⟨true, rfl, iteF ?_⟩⟩
      have gm5 := gm.same s5
      refine ⟨_, rfl, _, rfl, _, rfl, ta, _, rfl, gm5.turn, fun tr htr => ?_⟩
      have sr := Same.new (o := .tup (t.map iV).reverse) htr
      have gmr : Game K (upd H5 tr (.tup (t.map iV).reverse)) tb l tr rows t.reverse D := by
        have g6 := gm5.same sr
        exact ⟨g6.tab, g6.ro, g6.sml, g.deals hn6 hD ((List.reverse_perm t).trans ht), g6.pos, g6.cnt, g6.dl, by rw [upd_same, List.map_reverse]⟩
      refine ⟨tb, l, tr, rows, t.reverse, D, rfl, gmr, fun H6 s6 => ⟨true, rfl, iteF ?_⟩⟩
      have s06 := Same.trans s5 (Same.trans sr s6)
      exact ⟨_, _, _, _, _, _, _, _, _, _, rfl, plC.at (fun u e => s06 _ _ e) (fun u e => s06 _ _ e), Same.tabs s06 tnC, gm.same s06⟩
    clear gm plC tnC
    rintro σ HD ⟨x5, x6, x10, x11, x12, x13, x14, x15, x16, x17, rfl, plC, tnC, gm⟩
    -- the drawers
    have hsz : decide (((n : Nat) : Int) < 5) = decide (n < 5) := decide_eq_decide.mpr ⟨fun h => by omega, fun h => by omega⟩
    refine ⟨LawG K a p c tb l ta ra kd n rows t D, ?_, ?_⟩
    · refine ⟨_, rfl, _, _, rfl, rfl, decide (n < 5), congrArg V.bl hsz, ?_⟩
      by_cases h5 : n < 5
      · rw [decide_eq_true h5]
        refine iteT ⟨_, rfl, _, rfl, _, rfl, _, rfl, p, c, tb, l, ta, rows, t, D, rfl, plC, lp, lc, gm, tnC, fun H6 kg pl6 tn6 => ⟨true, rfl, iteF ?_⟩⟩
        exact ⟨_, _, _, _, _, _, _, _, _, _, rfl, pl6, tn6, gm.kg plC ⟨lp, lc⟩ kg⟩
      · rw [decide_eq_false h5]
        exact iteF (iteF ⟨_, _, _, _, _, _, _, _, _, _, rfl, plC, tnC, gm⟩)
    clear gm plC tnC
    rintro σ HD ⟨x5, x6, x10, x11, x12, x13, x14, x15, x16, x17, rfl, plC, tnC, gm⟩
    -- where the turn is even
    refine ⟨LawG K a p c tb l ta ra kd n rows t D, ?_, ?_⟩
    · refine ⟨_, rfl, _, rfl, tb, ta, rows, t, rfl, gm.tab, gm.ro, gm.sml, gm.cnt, gm.dd.turn, gm.turn, fun H5 b s5 hev => ⟨b, rfl, ?_⟩⟩
      have gm5 := gm.same s5
      have pl5 : Pool H5 p c := plC.at (fun u e => s5 _ _ e) (fun u e => s5 _ _ e)
      have tn5 := Same.tabs s5 tnC
      cases b with
      | false => exact iteF (iteF ⟨_, _, _, _, _, _, _, _, _, _, rfl, pl5, tn5, gm5⟩)
      | true =>
        refine iteT ⟨_, rfl, _, _, rfl, rfl, decide (n < 5), congrArg V.bl hsz, ?_⟩
        by_cases h5 : n < 5
        · rw [decide_eq_true h5]
          refine iteT ?_
          obtain ⟨ep, hep⟩ := hev rfl
          have hta5 := gm5.turn
          obtain ⟨ws, hl5, tw⟩ := gm5.dl
          have hwl : ws.length = D.length := by rw [Paired.length tw, List.length_map]
          have hvec := gm5.dd.vec
          have hget : ∀ d ∈ D, ∀ q, q < rows.length → d[q]? = some (d.getD q 0) := fun d hd q hq => get_getD (by rw [(hvec d hd).1]; exact hq)
          have htl := turn_len gm5.dd.turn
          have p12 := pw_twelve g h5 gm5.dd
          refine ⟨_, rfl, l, rfl, ⟨_, SqL.of hl5⟩, ?_⟩
          refine for_list (xs := ws) (fun i σ H6 => ∃ (wd : Nat) (x11 x12 x13 x14 x17 : Option V), σ = [some (.ref a), some (.ref p), some (iV kd), some (iV n), some (.ref ra), x5, x6, some (.ref tb), some (.ref l), some (.ref ta), some (iV wd), x11, x12, x13, x14, x15, x16, x17] ∧ Same H5 H6 ∧ 0 < wd ∧ ∀ k, wd ∣ k ↔ ∀ d ∈ D.take i, Pw t (t.map (rowOf rows)) (whole rows.length) d k) ?_ ?_ ?_ ?_
          · exact ⟨1, _, _, _, _, _, rfl, Same.refl _, Nat.one_pos, fun k => ⟨fun _ d z => (nomatch z), fun _ => Nat.one_dvd _⟩⟩
          · rintro i σ H6 _ ⟨wd, y11, y12, y13, y14, y17, _, h, _⟩
            exact SqL.of (h _ _ hl5)
          · rintro i v σ H6 hv ⟨wd, y11, y12, y13, y14, y17, rfl, s6, hw0, hwk⟩
            obtain ⟨tt, htt, dp, rfl, hdp⟩ := paired_get tw hv
            obtain ⟨d, hd, rfl⟩ := map_at htt
            have hdm := List.mem_of_getElem? hd
            have w12 : wd ∣ 12 := (hwk 12).mpr fun e he => p12 e (List.mem_of_mem_take he)
            refine ⟨_, rfl, _, rfl, ta, rfl, ⟨_, SqT.of (s6 _ _ hta5)⟩, ?_⟩
            refine for_tup (xs := t.map iV) (fun j σ H7 => ∃ (w' : Nat) (lf : Addr) (L : List (List Nat)) (x13 x14 x17 : Option V), σ = [some (.ref a), some (.ref p), some (iV kd), some (iV n), some (.ref ra), x5, x6, some (.ref tb), some (.ref l), some (.ref ta), some (iV w'), some (.ref dp), some (.ref lf), x13, x14, x15, x16, x17] ∧ Same H5 H7 ∧ 0 < w' ∧ Dls H7 lf L ∧ L.length ≤ 1000 ∧ Wi wd t rows D d j w' L) ?_ ?_ ?_ ?_
            · exact ⟨wd, l, D, _, _, _, rfl, s6, hw0, ⟨ws, s6 _ _ hl5, tw.same s6⟩, gm5.dd.few, Wi.start gm5.dd hdm⟩
            · rintro j σ H7 _ ⟨w', lf, L, y13, y14, y17, _, h, _⟩
              exact SqT.of (h _ _ hta5)
            · rintro j v σ H7 hvj ⟨w', lf, L, y13, y14, y17, rfl, s7, hw0', ⟨us, hlf, tu⟩, hL, wi⟩
              obtain ⟨q', hq, rfl⟩ := map_at hvj
              have hqn : q' < rows.length := (turn_lt gm5.dd.turn).mp (List.mem_of_getElem? hq)
              obtain ⟨r, hr⟩ : ∃ r, rows[q']? = some r := ⟨_, List.getElem?_eq_getElem hqn⟩
              obtain ⟨aa, ha0, ⟨xs, xnd, xl, xm⟩, hdiv, wi'⟩ := wi.step hq hr (gm5.ro.nd r (List.mem_of_getElem? hr))
              have hul : us.length = L.length := by rw [Paired.length tu, List.length_map]
              obtain ⟨d1, d2⟩ := hdiv 12 w12 (p12 d hdm)
              have hw12 : w' ≤ 12 := Nat.le_of_dvd (by decide) d1
              have ha12 : aa ≤ 12 := Nat.le_of_dvd (by decide) d2
              refine ⟨_, rfl, lf, rfl, ⟨_, SqL.of hlf⟩, fun D1 hD1 => ?_⟩
              refine lc_same walk_list hD1 (fun i acc _ => acc = (L.take i).map fun d => iV (d.getD q' 0)) (small1000 (by omega)) (fun H' k => SqL.of (k _ _ hlf)) (fun _ _ _ _ _ _ _ h => h) rfl ?_ ?_
              · rintro i v H8 H' acc Fin Skip hi hla k rr ⟨rfl, y⟩ fin skip
                obtain ⟨tt, htt, pp, rfl, hpp⟩ := paired_get tu y
                obtain ⟨e, he, rfl⟩ := map_at htt
                refine ⟨rfl, _, rfl, _, rfl, pp, _, _, _, rfl, rfl, SqT.of (k _ _ hpp), atI_nat (at_map (hget e (wi.sub e (List.mem_of_getElem? he)) q' hqn)), fin _ _ (Same.refl _) ?_⟩
                rw [rr, take_snoc he, List.map_append]; rfl
              · intro H8 acc k8 hla hacc rr
                rw [hul, List.take_length] at rr
                refine ⟨D1, (L.map fun d => d.getD q' 0).map fun (n : Nat) => (n : Int), rfl, SqL.of ?_, by rw [List.length_map, List.length_map]; omega, fun sp c2 hc2 hsp => ?_⟩
                · rw [hacc, rr, List.map_map, List.map_map]; rfl
                refine ⟨sp, _, _, rfl, upd_same, fun hcount => ?_⟩
                have hc : aa = c2 := by
                  have := hcount (xs.map fun (n : Nat) => (n : Int)) (List.pairwise_map.mpr (xnd.imp fun h z => h (Int.ofNat.inj z))) (fun z => by
                    rw [decide_eq_true_iff]
                    constructor
                    · intro hz
                      obtain ⟨m, hm, rfl⟩ := List.mem_map.mp hz
                      exact List.mem_map.mpr ⟨m, (xm m).mp hm, rfl⟩
                    · intro hz
                      obtain ⟨m, hm, rfl⟩ := List.mem_map.mp hz
                      exact List.mem_map.mpr ⟨m, (xm m).mpr hm, rfl⟩)
                  rw [List.length_map, xl] at this
                  exact this
                subst hc
                have s8 := Same.trans k8 (Same.new (o := SetO w sp (fun j => decide (j ∈ (L.map fun d => d.getD q' 0).map fun (n : Nat) => (n : Int))) aa) hsp)
                have g0 : 0 < Nat.gcd w' aa := Nat.gcd_pos_of_pos_left _ hw0'
                have g12 : Nat.gcd w' aa ≤ 12 := Nat.le_trans (Nat.gcd_le_left _ hw0') hw12
                refine ⟨_, rfl, _, rfl, _, _, rfl, rfl, .inr ⟨by omega, by omega⟩, _, rfl, _, rfl, w', aa, rfl, _, _, rfl, rfl, ⟨by omega, by omega⟩, ?_⟩
                generalize eH9 : upd H8 sp _ = H9
                have s9 : Same H7 H9 := by rw [← eH9]; exact s8
                clear eH9
                have hlf9 := s9 _ _ hlf
                have tu9 := tu.same s9
                have hdp9 := s9 _ _ (s7 _ _ hdp)
                refine ⟨_, rfl, lf, rfl, ⟨_, SqL.of hlf9⟩, fun D2 hD2 => ?_⟩
                refine lc_same walk_list hD2 (fun i acc H => Tups H acc (((L.take i).filter (headIs q' (d.getD q' 0))).map fun (e : List Nat) => e.map iV)) (small1000 (by omega)) (fun H' k => SqL.of (k _ _ hlf9)) (fun i acc H H' ys hd k h => Tups.x h k (fun xs z => by rw [hd] at z; cases z)) .nil ?_ ?_
                · rintro i v H10 H' acc2 Fin Skip hi hla2 k rr2 ⟨rfl, y⟩ fin skip
                  obtain ⟨tt, htt, pp, rfl, hpp⟩ := paired_get tu9 y
                  obtain ⟨e, he, rfl⟩ := map_at htt
                  have em := wi.sub e (List.mem_of_getElem? he)
                  have er := filter_snoc (p := headIs q' (d.getD q' 0)) he
                  have hb : decide (iV (e.getD q' 0) = iV (d.getD q' 0)) = headIs q' (d.getD q' 0) e := decide_eq_decide.mpr ⟨fun z => by injection z with z; exact Int.ofNat.inj z, fun z => by rw [z]⟩
                  refine ⟨rfl, _, rfl, _, rfl, pp, _, _, _, rfl, rfl, SqT.of (k _ _ hpp), atI_nat (at_map (hget e em q' hqn)), _, rfl, _, rfl, dp, _, _, _, rfl, rfl, SqT.of (k _ _ hdp9), atI_nat (at_map (hget d hdm q' hqn)), rfl, headIs q' (d.getD q' 0) e, congrArg V.bl hb, ?_⟩
                  cases ob : headIs q' (d.getD q' 0) e with
                  | true =>
                    refine iteT ⟨_, rfl, fin _ _ (Same.refl _) ?_⟩
                    rw [er, if_pos ob, List.map_append]
                    exact Tups.snoc rr2 (k _ _ hpp)
                  | false =>
                    refine iteF (skip _ (Same.refl _) ?_)
                    rw [er, if_neg (by rw [ob]; decide), List.append_nil]; exact rr2
                · intro H10 acc2 k10 hla2 hacc2 rr2
                  rw [hul, List.take_length] at rr2
                  exact ⟨Nat.lcm w' aa, D2, L.filter (headIs q' (d.getD q' 0)), _, _, _, rfl, Same.trans s7 (Same.trans s9 k10), Nat.lcm_pos hw0' ha0, ⟨acc2, hacc2, rr2⟩, Nat.le_trans (List.length_filter_le _ _) hL, wi'⟩
            · rintro σ H7 ⟨w', lf, L, y13, y14, y17, rfl, s7, hw0', _, _, wi⟩
              rw [List.length_map] at wi
              refine ⟨w', _, _, _, _, _, rfl, s7, hw0', fun k => ?_⟩
              rw [wi.done k, hwk k, take_snoc hd]
              constructor
              · rintro ⟨h1, h2⟩ e he
                rcases List.mem_append.mp he with he | he
                · exact h1 e he
                · rw [List.mem_singleton.mp he]; exact h2
              · intro h
                exact ⟨fun e he => h e (List.mem_append_left _ he), h d (List.mem_append_right _ List.mem_cons_self)⟩
          rintro σ H6 ⟨wd, y11, y12, y13, y14, y17, rfl, s6, hw0, hwk⟩
          rw [hwl, List.take_length] at hwk
          have hlw := wide_lsd gm5.ro gm5.dd gm5.cnt hep hwk
          have w12 : wd ∣ 12 := (hwk 12).mpr p12
          have hw12 : wd ≤ 12 := Nat.le_of_dvd (by decide) w12
          have gm6 := gm5.same s6
          refine ⟨_, rfl, _, rfl, tb, rows, .ref ta, rfl, gm6.tab, by omega, gm6.sml, .inl ⟨t, ⟨ta, rfl, gm6.turn, gm6.dd.turn⟩, gm6.ro, gm6.pos, gm6.cnt, fun H7 s7 => ?_⟩⟩
          rw [hlw, if_pos (by omega)]
          have s67 := Same.trans s6 s7
          refine ⟨_, rfl, rfl, false, congrArg V.bl (by rw [decide_eq_true rfl]; rfl), iteF ?_⟩
          exact ⟨_, _, _, _, _, _, _, _, _, _, rfl, pl5.at (fun u e => s67 _ _ e) (fun u e => s67 _ _ e), Same.tabs s67 tn5, gm5.same s67⟩
        · rw [decide_eq_false h5]
          exact iteF ⟨_, _, _, _, _, _, _, _, _, _, rfl, pl5, tn5, gm5⟩
    clear gm plC tnC
    rintro σ HD ⟨x5, x6, x10, x11, x12, x13, x14, x15, x16, x17, rfl, plC, tnC, gm⟩
    exact ⟨_, rfl, _, rfl, p, c, n, rfl, plC, hn1, hn6, fun H' _ => q H'⟩
end
end Fo
end
section
set_option Elab.async false
set_option linter.all false
set_option maxRecDepth 100000
set_option maxHeartbeats 8000000
namespace Fo
open PySem PySem.Spec PyProof.Rows L2 LamX NdefX
abbrev Rw : PySem.W.OpenRow := PySem.W.OpenLaw.row PySem.Challenge.rw_fullorring_k92_whole_sides_of_even_drawe
def fnL0 : List He.DefD := [⟨("is_integer", none), "is_integer", "is_integer", defArgs s_is_integer, defBody s_is_integer, defScope s_is_integer, [], []⟩, ⟨("is_within", none), "is_within", "is_within", defArgs s_is_within, defBody s_is_within, defScope s_is_within, [], []⟩, ⟨("are_ascending", none), "are_ascending", "are_ascending", defArgs s_are_ascending, defBody s_are_ascending, defScope s_are_ascending, [], []⟩, ⟨("is_lot_of", none), "is_lot_of", "is_lot_of", defArgs s_is_lot_of, defBody s_is_lot_of, defScope s_is_lot_of, [], []⟩, ⟨("is_all_of", none), "is_all_of", "is_all_of", defArgs s_is_all_of, defBody s_is_all_of, defScope s_is_all_of, [], []⟩, ⟨("check_number", none), "check_number", "check_number", defArgs s_check_number, defBody s_check_number, defScope s_check_number, [], []⟩, ⟨("check_many", none), "check_many", "check_many", defArgs s_check_many, defBody s_check_many, defScope s_check_many, [], []⟩, ⟨("common_divisor", none), "common_divisor", "common_divisor", defArgs s_common_divisor, defBody s_common_divisor, defScope s_common_divisor, [], []⟩, ⟨("made", none), "made", "made", defArgs s_made, defBody s_made, defScope s_made, [], []⟩, ⟨("times", none), "times", "times", defArgs s_times, defBody s_times, defScope s_times, [], []⟩, ⟨("plus", none), "plus", "plus", defArgs s_plus, defBody s_plus, defScope s_plus, [], []⟩, ⟨("Matching", some "__init__"), "__init__", "Matching.__init__", defArgs s_Matching_init, defBody s_Matching_init, defScope s_Matching_init, [], []⟩, ⟨("Matching", some "seat"), "seat", "Matching.seat", defArgs s_Matching_seat, defBody s_Matching_seat, defScope s_Matching_seat, [], []⟩, ⟨("Matching", some "hand_on"), "hand_on", "Matching.hand_on", defArgs s_Matching_hand_on, defBody s_Matching_hand_on, defScope s_Matching_hand_on, [], []⟩, ⟨("can_be_dealt", none), "can_be_dealt", "can_be_dealt", defArgs s_can_be_dealt, defBody s_can_be_dealt, defScope s_can_be_dealt, [], []⟩, ⟨("check_stuck", none), "check_stuck", "check_stuck", defArgs s_check_stuck, defBody s_check_stuck, defScope s_check_stuck, [], []⟩]
def fnL1 : List He.DefD := [⟨("is_dealing", none), "is_dealing", "is_dealing", defArgs s_is_dealing, defBody s_is_dealing, defScope s_is_dealing, [], []⟩, ⟨("Table", some "__init__"), "__init__", "Table.__init__", defArgs s_Table_init, defBody s_Table_init, defScope s_Table_init, [], []⟩, ⟨("Table", some "keep"), "keep", "Table.keep", defArgs s_Table_keep, defBody s_Table_keep, defScope s_Table_keep, [], []⟩, ⟨("Table", some "__eq__"), "__eq__", "Table.__eq__", defArgs s_Table___eq__, defBody s_Table___eq__, defScope s_Table___eq__, [], []⟩, ⟨("RawTable", some "__init__"), "__init__", "RawTable.__init__", defArgs s_RawTable_init, defBody s_RawTable_init, defScope s_RawTable_init, [], []⟩, ⟨("names", none), "names", "names", defArgs s_names, defBody s_names, defScope s_names, [], []⟩, ⟨("full", none), "full", "full", defArgs s_full, defBody s_full, defScope s_full, [], []⟩, ⟨("ring", none), "ring", "ring", defArgs s_ring, defBody s_ring, defScope s_ring, [], []⟩, ⟨("bits", none), "bits", "bits", defArgs s_bits, defBody s_bits, defScope s_bits, [], []⟩, ⟨("without", none), "without", "without", defArgs s_without, defBody s_without, defScope s_without, [], []⟩, ⟨("has", none), "has", "has", defArgs s_has, defBody s_has, defScope s_has, [], []⟩, ⟨("least_of", none), "least_of", "least_of", defArgs s_least_of, defBody s_least_of, defScope s_least_of, [], []⟩, ⟨("Counter", some "__init__"), "__init__", "Counter.__init__", defArgs s_Counter_init, defBody s_Counter_init, defScope s_Counter_init, [], []⟩, ⟨("Counter", some "of"), "of", "Counter.of", defArgs s_Counter_of, defBody s_Counter_of, defScope s_Counter_of, [], []⟩, ⟨("Counter", some "among"), "among", "Counter.among", defArgs s_Counter_among, defBody s_Counter_among, defScope s_Counter_among, [], []⟩, ⟨("Counter", some "total"), "total", "Counter.total", defArgs s_Counter_total, defBody s_Counter_total, defScope s_Counter_total, [], []⟩]
def fnL2 : List He.DefD := [⟨("many_dealings", none), "many_dealings", "many_dealings", defArgs s_many_dealings, defBody s_many_dealings, defScope s_many_dealings, [], []⟩, ⟨("left_of", none), "left_of", "left_of", defArgs s_left_of, defBody s_left_of, defScope s_left_of, [], []⟩, ⟨("opens", none), "opens", "opens", defArgs s_opens, defBody s_opens, defScope s_opens, [], []⟩, ⟨("after_draw", none), "after_draw", "after_draw", defArgs s_after_draw, defBody s_after_draw, defScope s_after_draw, [], []⟩, ⟨("check_turn", none), "check_turn", "check_turn", defArgs s_check_turn, defBody s_check_turn, defScope s_check_turn, [], []⟩, ⟨("check_custom", none), "check_custom", "check_custom", defArgs s_check_custom, defBody s_check_custom, defScope s_check_custom, [], []⟩, ⟨("shared_out", none), "shared_out", "shared_out", defArgs s_shared_out, defBody s_shared_out, defScope s_shared_out, [], []⟩, ⟨("Walk", some "__init__"), "__init__", "Walk.__init__", defArgs s_Walk_init, defBody s_Walk_init, defScope s_Walk_init, [], []⟩, ⟨("Walk", some "begin"), "begin", "Walk.begin", defArgs s_Walk_begin, defBody s_Walk_begin, defScope s_Walk_begin, [], []⟩, ⟨("Walk", some "is_over"), "is_over", "Walk.is_over", defArgs s_Walk_is_over, defBody s_Walk_is_over, defScope s_Walk_is_over, [], []⟩, ⟨("Walk", some "leaves_some"), "leaves_some", "Walk.leaves_some", defArgs s_Walk_leaves_some, defBody s_Walk_leaves_some, defScope s_Walk_leaves_some, [], []⟩, ⟨("Walk", some "drawn_from"), "drawn_from", "Walk.drawn_from", defArgs s_Walk_drawn_from, defBody s_Walk_drawn_from, defScope s_Walk_drawn_from, [], []⟩, ⟨("Walk", some "choices"), "choices", "Walk.choices", defArgs s_Walk_choices, defBody s_Walk_choices, defScope s_Walk_choices, [], []⟩, ⟨("Walk", some "through"), "through", "Walk.through", defArgs s_Walk_through, defBody s_Walk_through, defScope s_Walk_through, [], []⟩, ⟨("Walk", some "product"), "product", "Walk.product", defArgs s_Walk_product, defBody s_Walk_product, defScope s_Walk_product, [], []⟩, ⟨("Narrowed", some "__init__"), "__init__", "Narrowed.__init__", defArgs s_Narrowed_init, defBody s_Narrowed_init, defScope s_Narrowed_init, [], []⟩]
def fnL3 : List He.DefD := [⟨("Narrowed", some "among"), "among", "Narrowed.among", defArgs s_Narrowed_among, defBody s_Narrowed_among, defScope s_Narrowed_among, [], []⟩, ⟨("Narrowed", some "through"), "through", "Narrowed.through", defArgs s_Narrowed_through, defBody s_Narrowed_through, defScope s_Narrowed_through, [], []⟩, ⟨("Narrowed", some "products"), "products", "Narrowed.products", defArgs s_Narrowed_products, defBody s_Narrowed_products, defScope s_Narrowed_products, [], []⟩, ⟨("extremes", none), "extremes", "extremes", defArgs s_extremes, defBody s_extremes, defScope s_extremes, [], []⟩, ⟨("check_walk", none), "check_walk", "check_walk", defArgs s_check_walk, defBody s_check_walk, defScope s_check_walk, [], []⟩, ⟨("stuck_walk", none), "stuck_walk", "stuck_walk", defArgs s_stuck_walk, defBody s_stuck_walk, defScope s_stuck_walk, [], []⟩, ⟨("nothing_drawn", none), "nothing_drawn", "nothing_drawn", defArgs s_nothing_drawn, defBody s_nothing_drawn, defScope s_nothing_drawn, [], []⟩, ⟨("added", none), "added", "added", defArgs s_added, defBody s_added, defScope s_added, [], []⟩, ⟨("throws", none), "throws", "throws", defArgs s_throws, defBody s_throws, defScope s_throws, [], []⟩, ⟨("all_chances", none), "all_chances", "all_chances", defArgs s_all_chances, defBody s_all_chances, defScope s_all_chances, [], []⟩, ⟨("check_drawer", none), "check_drawer", "check_drawer", defArgs s_check_drawer, defBody s_check_drawer, defScope s_check_drawer, [], []⟩, ⟨("drawer_even", none), "drawer_even", "drawer_even", defArgs s_drawer_even, defBody s_drawer_even, defScope s_drawer_even, [], []⟩, ⟨("even_sides", none), "even_sides", "even_sides", defArgs s_even_sides, defBody s_even_sides, defScope s_even_sides, [], []⟩, ⟨("is_even", none), "is_even", "is_even", defArgs s_is_even, defBody s_is_even, defScope s_is_even, [], []⟩, ⟨("_law_pool", none), "_law_pool", "_law_pool", defArgs s_law_pool, defBody s_law_pool, defScope s_law_pool, [], []⟩, ⟨("_law_draw", none), "_law_draw", "_law_draw", defArgs s_law_draw, defBody s_law_draw, defScope s_law_draw, [], []⟩]
def fnL4 : List He.DefD := [⟨("_law_mixed", none), "_law_mixed", "_law_mixed", defArgs s_law_mixed, defBody s_law_mixed, defScope s_law_mixed, [], []⟩, ⟨("_law_blocks", none), "_law_blocks", "_law_blocks", defArgs s_law_blocks, defBody s_law_blocks, defScope s_law_blocks, [], []⟩, ⟨("_law_rows", none), "_law_rows", "_law_rows", defArgs s_law_rows, defBody s_law_rows, defScope s_law_rows, [], []⟩, ⟨("_law_all", none), "_law_all", "_law_all", defArgs s_law_all, defBody s_law_all, defScope s_law_all, [], []⟩, ⟨("_law_fits", none), "_law_fits", "_law_fits", defArgs s_law_fits, defBody s_law_fits, defScope s_law_fits, [], []⟩, ⟨("_law_wide_rows", none), "_law_wide_rows", "_law_wide_rows", defArgs s_law_wide_rows, defBody s_law_wide_rows, defScope s_law_wide_rows, [], []⟩, ⟨("_law_flag", none), "_law_flag", "_law_flag", defArgs s_law_flag, defBody s_law_flag, defScope s_law_flag, [], []⟩, ⟨("_law_divisor", none), "_law_divisor", "_law_divisor", defArgs s_law_divisor, defBody s_law_divisor, defScope s_law_divisor, [], []⟩, ⟨("_law_shares", none), "_law_shares", "_law_shares", defArgs s_law_shares, defBody s_law_shares, defScope s_law_shares, [], []⟩, ⟨("_law_least_sides", none), "_law_least_sides", "_law_least_sides", defArgs s_law_least_sides, defBody s_law_least_sides, defScope s_law_least_sides, [], []⟩, ⟨("_law_part_drawer", none), "_law_part_drawer", "_law_part_drawer", defArgs s_law_part_drawer, defBody s_law_part_drawer, defScope s_law_part_drawer, [], []⟩, ⟨("_law_told", none), "_law_told", "_law_told", defArgs s_law_told, defBody s_law_told, defScope s_law_told, [], []⟩, ⟨("_law_refused", none), "_law_refused", "_law_refused", defArgs s_law_refused, defBody s_law_refused, defScope s_law_refused, [], []⟩, ⟨("_law_sides_right", none), "_law_sides_right", "_law_sides_right", defArgs s_law_sides_right, defBody s_law_sides_right, defScope s_law_sides_right, [], []⟩, ⟨("_law_drawers_right", none), "_law_drawers_right", "_law_drawers_right", defArgs s_law_drawers_right, defBody s_law_drawers_right, defScope s_law_drawers_right, [], []⟩, ⟨("law", none), "law", "law", defArgs s_law, defBody s_law, defScope s_law, [], []⟩]
def fnL5 : List He.DefD := [⟨("RawTable", some "keep"), "keep", "Table.keep", defArgs s_Table_keep, defBody s_Table_keep, defScope s_Table_keep, [], []⟩]
def fnL : List He.DefD := fnL0 ++ (fnL1 ++ (fnL2 ++ (fnL3 ++ (fnL4 ++ (fnL5)))))
def faL0 : List He.Fa := [.glo "_wall", .glo "DrawError", .glo "BadTable", .glo "NoNumber", .glo "TooMany", .glo "Stuck", .glo "NoTurn", .glo "NoCustom", .glo "is_integer", .glo "is_within", .glo "are_ascending", .glo "is_lot_of", .glo "is_all_of", .glo "check_number", .glo "check_many", .glo "common_divisor"]
def faL1 : List He.Fa := [.glo "made", .glo "times", .glo "plus", .glo "Matching", .glo "can_be_dealt", .glo "check_stuck", .glo "is_dealing", .glo "Table", .glo "RawTable", .glo "names", .glo "full", .glo "ring", .glo "bits", .glo "without", .glo "has", .glo "least_of"]
def faL2 : List He.Fa := [.glo "Counter", .glo "many_dealings", .glo "left_of", .glo "opens", .glo "after_draw", .glo "check_turn", .glo "check_custom", .glo "shared_out", .glo "Walk", .glo "Narrowed", .glo "extremes", .glo "check_walk", .glo "stuck_walk", .glo "nothing_drawn", .glo "added", .glo "throws"]
def faL3 : List He.Fa := [.glo "all_chances", .glo "check_drawer", .glo "drawer_even", .glo "even_sides", .glo "is_even", .glo "_law_pool", .glo "_law_draw", .glo "_law_mixed", .glo "_law_blocks", .glo "_law_rows", .glo "_law_all", .glo "_law_fits", .glo "_law_wide_rows", .glo "_law_flag", .glo "_law_divisor", .glo "_law_shares"]
def faL4 : List He.Fa := [.glo "_law_least_sides", .glo "_law_part_drawer", .glo "_law_told", .glo "_law_refused", .glo "_law_sides_right", .glo "_law_drawers_right", .glo "law", .keep "is_integer", .keep "is_within", .keep "are_ascending", .keep "is_lot_of", .keep "is_all_of", .keep "check_number", .keep "check_many", .keep "common_divisor", .keep "made"]
def faL5 : List He.Fa := [.keep "times", .keep "plus", .keep "can_be_dealt", .keep "check_stuck", .keep "is_dealing", .keep "names", .keep "full", .keep "ring", .keep "bits", .keep "without", .keep "has", .keep "least_of", .keep "many_dealings", .keep "left_of", .keep "opens", .keep "after_draw"]
def faL6 : List He.Fa := [.keep "check_turn", .keep "check_custom", .keep "shared_out", .keep "extremes", .keep "check_walk", .keep "stuck_walk", .keep "nothing_drawn", .keep "added", .keep "throws", .keep "all_chances", .keep "check_drawer", .keep "drawer_even", .keep "even_sides", .keep "is_even", .keep "_law_pool", .keep "_law_draw"]
def faL7 : List He.Fa := [.keep "_law_mixed", .keep "_law_blocks", .keep "_law_rows", .keep "_law_all", .keep "_law_fits", .keep "_law_wide_rows", .keep "_law_flag", .keep "_law_divisor", .keep "_law_shares", .keep "_law_least_sides", .keep "_law_part_drawer", .keep "_law_told", .keep "_law_refused", .keep "_law_sides_right", .keep "_law_drawers_right", .keep "law"]
def faL8 : List He.Fa := [.cls "Matching", .mkr "Matching", .noat "Matching" "rows", .noat "Matching" "of", .noat "Matching" "owner", .noat "Matching" "left", .meth "Matching" "seat", .meth "Matching" "hand_on", .cls "Table", .mkr "Table", .noat "Table" "rows", .noat "Table" "size", .meth "Table" "keep", .cls "RawTable", .mkr "RawTable", .noat "RawTable" "rows"]
def faL9 : List He.Fa := [.noat "RawTable" "size", .meth "RawTable" "keep", .cls "Counter", .mkr "Counter", .noat "Counter" "rows", .noat "Counter" "whole", .noat "Counter" "known", .meth "Counter" "of", .meth "Counter" "among", .meth "Counter" "total", .cls "Walk", .mkr "Walk", .noat "Walk" "counter", .noat "Walk" "turn", .noat "Walk" "custom", .noat "Walk" "waiting"]
def faL10 : List He.Fa := [.noat "Walk" "kept", .noat "Walk" "all_through", .meth "Walk" "begin", .meth "Walk" "is_over", .meth "Walk" "drawn_from", .meth "Walk" "choices", .cls "Narrowed", .mkr "Narrowed", .noat "Narrowed" "walk", .noat "Narrowed" "forced", .noat "Narrowed" "known", .meth "Narrowed" "among", .meth "Narrowed" "products", .int "MOST_PEOPLE_tables" 12, .int "MOST_SIDES" 12, .int "MOST_PEOPLE_strangers" 6]
def faL11 : List He.Fa := [.int "MOST_EVEN" 5000, .str "STUCK" "stuck", .glo "CUSTOMS", .free "len", .free "abs", .free "sum", .free "all", .free "isinstance", .free "sorted", .free "max", .free "min", .free "int", .free "tuple", .free "list", .free "str", .free "bool"]
def faL12 : List He.Fa := [.free "set", .free "range", .free "zip", .free "enumerate", .free "ValueError", .exc "NoTurn", .exc "Stuck"]
def faL : List He.Fa := faL0 ++ (faL1 ++ (faL2 ++ (faL3 ++ (faL4 ++ (faL5 ++ (faL6 ++ (faL7 ++ (faL8 ++ (faL9 ++ (faL10 ++ (faL11 ++ (faL12))))))))))))
/-! ### one more Bool: the customs, the own errors -/
def excCB (K : PySem.W.Frag) (D : Addr) : Bool :=
  He.eqO (PySem.W.findIn K (.ref D) "__getattribute__") (some (some (.builtin "BaseException.__getattribute__"))) && (He.eqO (PySem.W.findIn K (.ref D) "__getattr__") (some none) &&
  (decide (PySem.W.subIn K (.ref D) (.type "BaseException") = some true) && (PySem.W.hasDictIn K D && (He.eqO (PySem.W.findIn K (.ref D) "__class__") (some (some (.builtin "object.__class__"))) &&
  (He.eqO (PySem.W.specialIn K (.builtin "object.__class__") "__get__") (some (some (.builtin "getset_descriptor.__get__"))) && (decide (PySem.W.takesIn K (.builtin "object.__class__") = some true) && decide (PySem.W.mroIn K D (.type "object") = some true)))))))
theorem excCB_ok {K : PySem.W.Frag} {D : Addr} (h : excCB K D = true) : ExcC K D := by
  obtain ⟨h1, h⟩ := He.ba h
  obtain ⟨h2, h⟩ := He.ba h
  obtain ⟨h3, h⟩ := He.ba h
  obtain ⟨h4, h⟩ := He.ba h
  obtain ⟨h5, h⟩ := He.ba h
  obtain ⟨h6, h⟩ := He.ba h
  obtain ⟨h7, h8⟩ := He.ba h
  exact ⟨He.eqO_ok h1, He.eqO_ok h2, of_decide_eq_true h3, h4, He.eqO_ok h5, He.eqO_ok h6, of_decide_eq_true h7, of_decide_eq_true h8⟩
def oneB (K : PySem.W.Frag) (x : Str) (b1 b2 b3 : Bool) : Bool :=
  decide (PySem.W.exmOne K (.ref (He.ga K x)) (.ref (He.ga K "DrawError")) = some true) && (excCB K (He.ga K x) && (xfB K (He.ga K x) && (He.eqO (PySem.W.findIn K (.ref (He.ga K x)) "most") (some none) &&
  (decide (PySem.W.kitOne K (.ref (He.ga K x)) (.type "ValueError") = some true) && (decide (PySem.W.kitOne K (.ref (He.ga K x)) (.ref (He.ga K "NoTurn")) = some b1) && (decide (PySem.W.kitOne K (.ref (He.ga K x)) (.ref (He.ga K "Stuck")) = some b2) &&
  (decide (PySem.W.kitOne K (.ref (He.ga K x)) (.ref (He.ga K "TooMany")) = some b3) && decide (PySem.W.kitOne K (.ref (He.ga K x)) (.ref (He.ga K "NoNumber")) = some false))))))))
theorem oneB_ok {K : PySem.W.Frag} {x : Str} {b1 b2 b3 : Bool} (h : oneB K x b1 b2 b3 = true) : OneX K x b1 b2 b3 := by
  obtain ⟨h1, h⟩ := He.ba h
  obtain ⟨h2, h⟩ := He.ba h
  obtain ⟨h3, h⟩ := He.ba h
  obtain ⟨h4, h⟩ := He.ba h
  obtain ⟨h5, h⟩ := He.ba h
  obtain ⟨h6, h⟩ := He.ba h
  obtain ⟨h7, h⟩ := He.ba h
  obtain ⟨h8, h9⟩ := He.ba h
  exact ⟨of_decide_eq_true h1, excCB_ok h2, xfB_ok h3, He.eqO_ok h4, of_decide_eq_true h5, of_decide_eq_true h6, of_decide_eq_true h7, of_decide_eq_true h8, of_decide_eq_true h9⟩
def oexClsB (K : PySem.W.Frag) (C : Addr) : Bool := match K.lookup C with
  | some ⟨.type c, _, .cls cd, sl⟩ => (match cd.mro, sl.toList with
    | .ref C' :: bm, [_, _, _, _, some (.builtin n), _] => decide (c = "type") && (decide (C' = C) && (decide (n = "ValueError.__new__") && (!cd.hasDel && (cd.hasDict && PySem.HandSPX.refsVE bm))))
    | _, _ => false)
  | _ => false
theorem oexClsB_ok {K : PySem.W.Frag} {C : Addr} (h : oexClsB K C = true) : ∃ nm q N bs bm sn sub ab col dd k0 k1 k2 k3 k5, K.lookup C = some (excClassObj nm q C N bs bm true sn sub ab col dd k0 k1 k2 k3 k5 "ValueError.__new__") ∧ PySem.HandSPX.refsVE bm = true := by
  unfold oexClsB at h
  split at h
  · rename_i c dd cd sl ho
    split at h
    · rename_i C' bm k0 k1 k2 k3 n k5 hm hs
      obtain ⟨h1, h⟩ := He.ba h
      obtain ⟨h2, h⟩ := He.ba h
      obtain ⟨h3, h⟩ := He.ba h
      obtain ⟨h4, h⟩ := He.ba h
      obtain ⟨h5, h6⟩ := He.ba h
      have e1 := of_decide_eq_true h1
      have e2 := of_decide_eq_true h2
      have e3 := of_decide_eq_true h3
      obtain ⟨nm, bs, mro, ns, qn, hd, sn, sub, ab, col, del⟩ := cd
      dsimp only at hm h4 h5
      have e4 : del = false := by
        cases del with
        | false => rfl
        | true => cases h4
      subst e1 e2 e3 e4 hm h5
      have hsl : sl = #[k0, k1, k2, k3, some (.builtin "ValueError.__new__"), k5] := by
        obtain ⟨l⟩ := sl
        simp only at hs
        rw [hs]
      subst hsl
      exact ⟨nm, qn, ns, bs, bm, sn, sub, ab, col, dd, k0, k1, k2, k3, k5, ho, h6⟩
    · cases h
  · cases h
def tmCdB (K : PySem.W.Frag) (file : Str) (fI : Addr) : Bool := match K.lookup fI with
  | some ⟨_, _, .func fd, _⟩ => (match fd.code with
    | .ref cda => PySem.W.codeIn K (.ref cda) tmName && (match K.lookup cda with
      | some ⟨_, _, .fields vs, _⟩ => (match (vs[2]? : Option Value) with
        | some (.str f _) => file == f
        | _ => false)
      | _ => false)
    | _ => false)
  | _ => false
def tmClB (K : PySem.W.Frag) (C fI : Addr) : Bool := match K.lookup fI with
  | some ⟨_, _, .func fd, _⟩ => (match fd.closure with
    | [(_, cc)] => (match K.lookup cc with
      | some ⟨_, _, .cell (some (.ref D)), _⟩ => decide (D = C)
      | _ => false)
    | _ => false)
  | _ => false
abbrev FnT : Type := Option (Str × Str × Arguments × FuncBody × Scope × Addr × List Str × Value × Addr)
/-- the function object of TooMany.__init__ -/
def fnT (K : PySem.W.Frag) : FnT := match K.lookup (He.ma K (He.ga K "TooMany") "__init__") with
  | some ⟨_, _, .func fd, _⟩ => some (fd.name, fd.qualname, fd.params, fd.body, fd.scope, fd.globals, fd.closure.map (·.1), fd.defaults, fd.builtins)
  | _ => none
def vaT : FnT := some (("__init__" : Str), tmName, defArgs s_Tm, .stmts (defBody s_Tm), defScope s_Tm, mainGlobals, ["__class__"], .none, builtinsNs)
theorem tmFn_ok {K : PySem.W.Frag} {file : Str} {C : Addr} (e : fnT K = vaT) (h1 : tmCdB K file (He.ma K (He.ga K "TooMany") "__init__") = true) (h2 : tmClB K C (He.ma K (He.ga K "TooMany") "__init__") = true) :
    ∃ (cda cc : Addr) (oc : Value) (od : Option Addr) (kV doc pm : Value) (an : Option Addr) (ct : Value) (osl : Array (Option Value)) (ccl cl : Value) (cdd cld : Option Addr) (vs : Array Value) (ccs csl : Array (Option Value)) (f : Str) (tf : Tok),
      K.lookup (He.ma K (He.ga K "TooMany") "__init__") = some ⟨oc, od, .func (PySem.W.ksFn "__init__" tmName (defArgs s_Tm) (defBody s_Tm) (defScope s_Tm) .none kV doc pm an (.ref cda) ct cc), osl⟩ ∧ PySem.W.codeIn K (.ref cda) tmName = true ∧
      K.lookup cda = some ⟨ccl, cdd, .fields vs, ccs⟩ ∧ vs[2]? = some (.str f tf) ∧ (file == f) = true ∧ K.lookup cc = some ⟨cl, cld, .cell (some (.ref C)), csl⟩ := by
  unfold fnT at e
  unfold tmCdB at h1
  unfold tmClB at h2
  cases q : K.lookup (He.ma K (He.ga K "TooMany") "__init__") with
  | none =>
    rw [q] at h1
    cases h1
  | some o =>
    obtain ⟨oc, od, dt, osl⟩ := o
    rw [q] at e h1 h2
    cases dt with
    | func fd =>
      obtain ⟨n1, n2, n3, n4, n5, n6, n7, n8, n9, n10, n11, n12, n13, n14, n15⟩ := fd
      have e2 : (some (n1, n2, n3, n4, n5, n6, n7.map (·.1), n8, n15) : FnT) = vaT := e
      unfold vaT at e2
      simp only [Option.some.injEq, Prod.mk.injEq] at e2
      obtain ⟨r1, r2, r3, r4, r5, r6, r7, r8, r9⟩ := e2
      subst r1 r2 r3 r4 r5 r6 r8 r9
      dsimp only at h1 h2
      cases n13 with
      | ref cda =>
        obtain ⟨h3, h4⟩ := He.ba h1
        split at h4
        · rename_i ccl cdd vs ccs hk
          split at h4
          · rename_i f tf hv
            split at h2
            · rename_i x cc
              have rx : x = Str.ofString "__class__" := by
                have z : ([x] : List Str) = [Str.ofString "__class__"] := r7
                exact (List.cons.inj z).1
              subst rx
              split at h2
              · rename_i cl cld D csl hc
                have eD := of_decide_eq_true h2
                subst eD
                exact ⟨cda, cc, oc, od, n9, n10, n11, n12, n14, osl, ccl, cl, cdd, cld, vs, ccs, csl, f, tf, rfl, h3, hk, hv, h4, hc⟩
              · cases h2
            · cases h2
          · cases h4
        · cases h4
      | _ => cases h1
    | _ => cases h1
def tmB (K : PySem.W.Frag) (file : Str) : Bool :=
  oexClsB K (He.ga K "TooMany") && (He.eqO (PySem.W.findIn K (.ref (He.ga K "TooMany")) "__setattr__") (some (some (.builtin "object.__setattr__"))) && (decide (PySem.W.subIn K (.ref (He.ga K "TooMany")) (.type "BaseException") = some true) &&
  (decide (PySem.W.typeIn K (.ref (He.ga K "TooMany")) = some (.type "type")) && (PySem.W.keepIn K (.ref (He.ga K "TooMany")) && (He.eqO (PySem.W.findIn K (.ref (He.ga K "TooMany")) "__init__") (some (some (.ref (He.ma K (He.ga K "TooMany") "__init__")))) &&
  (decide (PySem.W.typeIn K (.ref (He.ma K (He.ga K "TooMany") "__init__")) = some (.type "function")) && (tmCdB K file (He.ma K (He.ga K "TooMany") "__init__") && (tmClB K (He.ga K "TooMany") (He.ma K (He.ga K "TooMany") "__init__") &&
  ((match PySem.W.clsIn K (He.ga K "TooMany") with
    | some cd => He.eqO (PySem.W.alongIn K "__init__" ((cd.mro.dropWhile (· != .ref (He.ga K "TooMany"))).drop 1)) (some (some (.builtin "ValueError.__init__")))
    | none => false) &&
  (decide (PySem.W.mroIn K (He.ga K "TooMany") (.ref (He.ga K "TooMany")) = some true) && (He.eqO (PySem.W.nsIn K mainGlobals "super") (some none) && (He.eqO (PySem.W.nsIn K cStatics "thirdparty.any") (some none) &&
  (decide (PySem.W.subIn K (.ref (He.ga K "TooMany")) (.type "ValueError") = some true) && He.eqO (PySem.W.findIn K (.ref (He.ga K "TooMany")) "most") (some none))))))))))))))
theorem tmB_ok {P : Program} {K : PySem.W.Frag} (e : fnT K = vaT) (h : tmB K P.main.file = true) (ht : (P.main.scope.names.lookup ("super" : Str)).isSome = false) : TmK P K s_Tm (He.ga K "TooMany") (He.ma K (He.ga K "TooMany") "__init__") := by
  obtain ⟨h1, h⟩ := He.ba h
  obtain ⟨h2, h⟩ := He.ba h
  obtain ⟨h3, h⟩ := He.ba h
  obtain ⟨h4, h⟩ := He.ba h
  obtain ⟨h5, h⟩ := He.ba h
  obtain ⟨h6, h⟩ := He.ba h
  obtain ⟨h7, h⟩ := He.ba h
  obtain ⟨h8, h⟩ := He.ba h
  obtain ⟨h9, h⟩ := He.ba h
  obtain ⟨h10, h⟩ := He.ba h
  obtain ⟨h11, h⟩ := He.ba h
  obtain ⟨h12, h⟩ := He.ba h
  obtain ⟨h13, h⟩ := He.ba h
  obtain ⟨h14, h15⟩ := He.ba h
  refine ⟨⟨oexClsB_ok h1, He.eqO_ok h2, of_decide_eq_true h3, of_decide_eq_true h4, h5⟩, He.eqO_ok h6, of_decide_eq_true h7, tmFn_ok e h8 h9, ?_, of_decide_eq_true h11, He.eqO_ok h12, He.eqO_ok h13, of_decide_eq_true h14, He.eqO_ok h15, ht⟩
  cases q : PySem.W.clsIn K (He.ga K "TooMany") with
  | none =>
    rw [q] at h10
    cases h10
  | some cd =>
    rw [q] at h10
    exact ⟨cd, rfl, He.eqO_ok h10⟩
def exL (K : PySem.W.Frag) : Bool :=
  He.tupB K "CUSTOMS" [.str "ahead", .str "near", .str "anew", .str "strict"] && (oneB K "NoTurn" true false false && (oneB K "Stuck" false true false && (oneB K "TooMany" false false true && tmB K Rw.prog.main.file)))
theorem hy_ok {K : PySem.W.Frag} (h : exL K = true) : Hy K := ⟨fun H => He.tupB_ok (He.ba h).1 H⟩
theorem ht_ok {K : PySem.W.Frag} (h : exL K = true) : Ht K := by
  obtain ⟨h2, h⟩ := He.ba (He.ba h).2
  obtain ⟨h3, h⟩ := He.ba h
  obtain ⟨h4, _⟩ := He.ba h
  exact ⟨oneB_ok h2, oneB_ok h3, oneB_ok h4⟩
theorem tm_ok {K : PySem.W.Frag} (h : exL K = true) (e : fnT K = vaT) : TmK Rw.prog K s_Tm (He.ga K "TooMany") (He.ma K (He.ga K "TooMany") "__init__") := by
  obtain ⟨_, h⟩ := He.ba (He.ba h).2
  obtain ⟨_, h⟩ := He.ba h
  exact tmB_ok e (He.ba h).2 (by decide +kernel)
/-! ### the Hook: HeadHook4's, over the statics too, and the closure function -/
abbrev AlZ : Type := He.AlX × FnT
def adL0 : List Addr := [3, 2, 31, 30, 53, 52, 65, 64, 86, 85, 98, 97, 110, 109, 122, 121, 231, 230, 285, 284, 306, 305, 383, 382, 498, 497, 534, 533, 412, 83, 82, 71]
def adL1 : List Addr := [131, 130, 138, 137, 143, 142, 148, 147, 153, 152, 160, 159, 167, 166, 174, 173, 181, 180, 188, 187, 195, 194, 207, 206, 214, 213, 221, 220, 242, 241, 249, 248]
def adL2 : List Addr := [254, 253, 268, 267, 275, 274, 282, 281, 303, 302, 313, 312, 318, 317, 323, 322, 328, 327, 335, 334, 342, 341, 349, 348, 363, 362, 368, 367, 373, 372, 380, 379]
def adL3 : List Addr := [394, 393, 399, 398, 404, 403, 411, 410, 419, 418, 426, 425, 433, 432, 445, 444, 452, 451, 459, 458, 464, 463, 469, 468, 476, 475, 481, 480, 488, 487, 516, 515]
def adL4 : List Addr := [521, 520, 526, 525, 531, 530, 545, 544, 552, 551, 559, 558, 566, 565, 573, 572, 580, 579, 587, 586, 594, 593, 599, 598, 604, 603, 611, 610, 616, 615, 623, 622]
def adL5 : List Addr := [628, 627, 633, 632, 638, 637, 643, 642, 648, 647, 653, 652, 660, 659, 667, 666, 672, 671, 677, 676, 684, 683, 689, 688, 696, 695, 703, 702, 710, 709, 715, 714]
/-- where the text's objects lie once the top has run: the module, the statics, the classes and their dicts, the functions and their code -/
def adL : List Addr := adL0 ++ (adL1 ++ (adL2 ++ (adL3 ++ (adL4 ++ (adL5)))))
def asZ (_ : Addr → Option Obj) (_ : Nat) : List Addr := adL
def obsZ (n : Nat) (g : Addr → Option Obj) : AlZ :=
  ((He.obsT faL fnL [] (He.frT g (asZ g n)), exL (He.frT g (asZ g n)) && He.tabsB g [kPart] (He.frT g (asZ g n))), fnT (He.frT g (asZ g n)))
structure SaysZ (w : World) (h : Heap) (K : PySem.W.Frag) : Prop where
  x : He.SaysX faL fnL [] [kPart] exL w h K
  f : fnT K = vaT
theorem saysZ_of {n : Nat} {w : World} {h : Heap} (e : obsZ n h.get? = (He.valX fnL [] w, vaT)) : SaysZ w h (He.frT h.get? (asZ h.get? n)) := by
  have e0 : ((He.obsT faL fnL [] (He.frT h.get? (asZ h.get? n)), exL (He.frT h.get? (asZ h.get? n)) && He.tabsB h.get? [kPart] (He.frT h.get? (asZ h.get? n))) : He.AlX) = He.valX fnL [] w := congrArg (fun z : AlZ => z.1) e
  have e3 : fnT (He.frT h.get? (asZ h.get? n)) = vaT := congrArg (fun z : AlZ => z.2) e
  have e1 : He.obsT faL fnL [] (He.frT h.get? (asZ h.get? n)) = He.valT fnL [] w := congrArg (fun z : He.AlX => z.1) e0
  have e2 : (exL (He.frT h.get? (asZ h.get? n)) && He.tabsB h.get? [kPart] (He.frT h.get? (asZ h.get? n))) = true := congrArg (fun z : He.AlX => z.2) e0
  obtain ⟨h1, h2⟩ := He.ba e2
  have key : ∀ p ∈ [kPart], PySem.W.codeHdIn (He.frT h.get? (asZ h.get? n)) (He.cT (He.frT h.get? (asZ h.get? n)) p).1 (He.cT (He.frT h.get? (asZ h.get? n)) p).2 = true ∧ ∃ o, h.get? (He.cT (He.frT h.get? (asZ h.get? n)) p).2 = some o ∧ He.emptyTab o = true := fun p hp => by
    obtain ⟨h3, h4⟩ := He.ba (List.all_eq_true.mp h2 p hp)
    refine ⟨h3, ?_⟩
    cases q : h.get? (He.cT (He.frT h.get? (asZ h.get? n)) p).2 with
    | none =>
      rw [q] at h4
      cases h4
    | some o =>
      rw [q] at h4
      exact ⟨o, rfl, h4⟩
  refine ⟨⟨e1, h1, fun p hp => (key p hp).1, fun p hp => ?_, fun p hp => ?_⟩, e3⟩
  · obtain ⟨_, o, q, z⟩ := key p hp
    exact He.frT_none q z
  · obtain ⟨_, o, q, z⟩ := key p hp
    rw [q, He.emptyTab_eq z]
def hookZ (n : Nat) : PySem.W.Hook where
  α := AlZ
  obs := fun s => obsZ n s.heap.get?
  val := fun w => (He.valX fnL [] w, vaT)
  says := fun w h => ∃ K : PySem.W.Frag, K.In h ∧ SaysZ w h K
  of := fun _ _ e => ⟨_, He.frT_in, saysZ_of e⟩
  keeps := fun _ _ _ ⟨K, hK, c⟩ k => ⟨K, PySem.W.Frag.In.keeps hK k, ⟨⟨c.x.t, c.x.more, c.x.hd, c.x.out, fun p hp => k _ _ (c.x.empty p hp)⟩, c.f⟩⟩
theorem obsZ_eq {n : Nat} {g : Addr → Option Obj} {s : Shared} (h : ∀ a, g a = s.heap.get? a) : obsZ n g = (hookZ n).obs s := by
  have e : g = s.heap.get? := funext h
  rw [e] <;> rfl
section
variable {K : PySem.W.Frag} {h : Heap} {mg : Str → Option Value}
theorem hd_ok (X : K.In h) (G : h.Ns mainGlobals mg) (c : He.SaysD faL fnL K) : Hd K mg where
  g_wall := He.glo_ok X G (c.fact 0 (f := .glo "_wall") rfl)
  g_DrawError := He.glo_ok X G (c.fact 1 (f := .glo "DrawError") rfl)
  g_BadTable := He.glo_ok X G (c.fact 2 (f := .glo "BadTable") rfl)
  g_NoNumber := He.glo_ok X G (c.fact 3 (f := .glo "NoNumber") rfl)
  g_TooMany := He.glo_ok X G (c.fact 4 (f := .glo "TooMany") rfl)
  g_Stuck := He.glo_ok X G (c.fact 5 (f := .glo "Stuck") rfl)
  g_NoTurn := He.glo_ok X G (c.fact 6 (f := .glo "NoTurn") rfl)
  g_NoCustom := He.glo_ok X G (c.fact 7 (f := .glo "NoCustom") rfl)
  g_is_integer := He.glo_ok X G (c.fact 8 (f := .glo "is_integer") rfl)
  g_is_within := He.glo_ok X G (c.fact 9 (f := .glo "is_within") rfl)
  g_are_ascending := He.glo_ok X G (c.fact 10 (f := .glo "are_ascending") rfl)
  g_is_lot_of := He.glo_ok X G (c.fact 11 (f := .glo "is_lot_of") rfl)
  g_is_all_of := He.glo_ok X G (c.fact 12 (f := .glo "is_all_of") rfl)
  g_check_number := He.glo_ok X G (c.fact 13 (f := .glo "check_number") rfl)
  g_check_many := He.glo_ok X G (c.fact 14 (f := .glo "check_many") rfl)
  g_common_divisor := He.glo_ok X G (c.fact 15 (f := .glo "common_divisor") rfl)
  g_made := He.glo_ok X G (c.fact 16 (f := .glo "made") rfl)
  g_times := He.glo_ok X G (c.fact 17 (f := .glo "times") rfl)
  g_plus := He.glo_ok X G (c.fact 18 (f := .glo "plus") rfl)
  g_Matching := He.glo_ok X G (c.fact 19 (f := .glo "Matching") rfl)
  g_can_be_dealt := He.glo_ok X G (c.fact 20 (f := .glo "can_be_dealt") rfl)
  g_check_stuck := He.glo_ok X G (c.fact 21 (f := .glo "check_stuck") rfl)
  g_is_dealing := He.glo_ok X G (c.fact 22 (f := .glo "is_dealing") rfl)
  g_Table := He.glo_ok X G (c.fact 23 (f := .glo "Table") rfl)
  g_RawTable := He.glo_ok X G (c.fact 24 (f := .glo "RawTable") rfl)
  g_names := He.glo_ok X G (c.fact 25 (f := .glo "names") rfl)
  g_full := He.glo_ok X G (c.fact 26 (f := .glo "full") rfl)
  g_ring := He.glo_ok X G (c.fact 27 (f := .glo "ring") rfl)
  g_bits := He.glo_ok X G (c.fact 28 (f := .glo "bits") rfl)
  g_without := He.glo_ok X G (c.fact 29 (f := .glo "without") rfl)
  g_has := He.glo_ok X G (c.fact 30 (f := .glo "has") rfl)
  g_least_of := He.glo_ok X G (c.fact 31 (f := .glo "least_of") rfl)
  g_Counter := He.glo_ok X G (c.fact 32 (f := .glo "Counter") rfl)
  g_many_dealings := He.glo_ok X G (c.fact 33 (f := .glo "many_dealings") rfl)
  g_left_of := He.glo_ok X G (c.fact 34 (f := .glo "left_of") rfl)
  g_opens := He.glo_ok X G (c.fact 35 (f := .glo "opens") rfl)
  g_after_draw := He.glo_ok X G (c.fact 36 (f := .glo "after_draw") rfl)
  g_check_turn := He.glo_ok X G (c.fact 37 (f := .glo "check_turn") rfl)
  g_check_custom := He.glo_ok X G (c.fact 38 (f := .glo "check_custom") rfl)
  g_shared_out := He.glo_ok X G (c.fact 39 (f := .glo "shared_out") rfl)
  g_Walk := He.glo_ok X G (c.fact 40 (f := .glo "Walk") rfl)
  g_Narrowed := He.glo_ok X G (c.fact 41 (f := .glo "Narrowed") rfl)
  g_extremes := He.glo_ok X G (c.fact 42 (f := .glo "extremes") rfl)
  g_check_walk := He.glo_ok X G (c.fact 43 (f := .glo "check_walk") rfl)
  g_stuck_walk := He.glo_ok X G (c.fact 44 (f := .glo "stuck_walk") rfl)
  g_nothing_drawn := He.glo_ok X G (c.fact 45 (f := .glo "nothing_drawn") rfl)
  g_added := He.glo_ok X G (c.fact 46 (f := .glo "added") rfl)
  g_throws := He.glo_ok X G (c.fact 47 (f := .glo "throws") rfl)
  g_all_chances := He.glo_ok X G (c.fact 48 (f := .glo "all_chances") rfl)
  g_check_drawer := He.glo_ok X G (c.fact 49 (f := .glo "check_drawer") rfl)
  g_drawer_even := He.glo_ok X G (c.fact 50 (f := .glo "drawer_even") rfl)
  g_even_sides := He.glo_ok X G (c.fact 51 (f := .glo "even_sides") rfl)
  g_is_even := He.glo_ok X G (c.fact 52 (f := .glo "is_even") rfl)
  g_law_pool := He.glo_ok X G (c.fact 53 (f := .glo "_law_pool") rfl)
  g_law_draw := He.glo_ok X G (c.fact 54 (f := .glo "_law_draw") rfl)
  g_law_mixed := He.glo_ok X G (c.fact 55 (f := .glo "_law_mixed") rfl)
  g_law_blocks := He.glo_ok X G (c.fact 56 (f := .glo "_law_blocks") rfl)
  g_law_rows := He.glo_ok X G (c.fact 57 (f := .glo "_law_rows") rfl)
  g_law_all := He.glo_ok X G (c.fact 58 (f := .glo "_law_all") rfl)
  g_law_fits := He.glo_ok X G (c.fact 59 (f := .glo "_law_fits") rfl)
  g_law_wide_rows := He.glo_ok X G (c.fact 60 (f := .glo "_law_wide_rows") rfl)
  g_law_flag := He.glo_ok X G (c.fact 61 (f := .glo "_law_flag") rfl)
  g_law_divisor := He.glo_ok X G (c.fact 62 (f := .glo "_law_divisor") rfl)
  g_law_shares := He.glo_ok X G (c.fact 63 (f := .glo "_law_shares") rfl)
  g_law_least_sides := He.glo_ok X G (c.fact 64 (f := .glo "_law_least_sides") rfl)
  g_law_part_drawer := He.glo_ok X G (c.fact 65 (f := .glo "_law_part_drawer") rfl)
  g_law_told := He.glo_ok X G (c.fact 66 (f := .glo "_law_told") rfl)
  g_law_refused := He.glo_ok X G (c.fact 67 (f := .glo "_law_refused") rfl)
  g_law_sides_right := He.glo_ok X G (c.fact 68 (f := .glo "_law_sides_right") rfl)
  g_law_drawers_right := He.glo_ok X G (c.fact 69 (f := .glo "_law_drawers_right") rfl)
  g_law := He.glo_ok X G (c.fact 70 (f := .glo "law") rfl)
  d_is_integer := c.def_ 0 (d := ⟨("is_integer", none), "is_integer", "is_integer", defArgs s_is_integer, defBody s_is_integer, defScope s_is_integer, [], []⟩) rfl
  p_is_integer := He.keep_ok (c.fact 71 (f := .keep "is_integer") rfl)
  d_is_within := c.def_ 1 (d := ⟨("is_within", none), "is_within", "is_within", defArgs s_is_within, defBody s_is_within, defScope s_is_within, [], []⟩) rfl
  p_is_within := He.keep_ok (c.fact 72 (f := .keep "is_within") rfl)
  d_are_ascending := c.def_ 2 (d := ⟨("are_ascending", none), "are_ascending", "are_ascending", defArgs s_are_ascending, defBody s_are_ascending, defScope s_are_ascending, [], []⟩) rfl
  p_are_ascending := He.keep_ok (c.fact 73 (f := .keep "are_ascending") rfl)
  d_is_lot_of := c.def_ 3 (d := ⟨("is_lot_of", none), "is_lot_of", "is_lot_of", defArgs s_is_lot_of, defBody s_is_lot_of, defScope s_is_lot_of, [], []⟩) rfl
  p_is_lot_of := He.keep_ok (c.fact 74 (f := .keep "is_lot_of") rfl)
  d_is_all_of := c.def_ 4 (d := ⟨("is_all_of", none), "is_all_of", "is_all_of", defArgs s_is_all_of, defBody s_is_all_of, defScope s_is_all_of, [], []⟩) rfl
  p_is_all_of := He.keep_ok (c.fact 75 (f := .keep "is_all_of") rfl)
  d_check_number := c.def_ 5 (d := ⟨("check_number", none), "check_number", "check_number", defArgs s_check_number, defBody s_check_number, defScope s_check_number, [], []⟩) rfl
  p_check_number := He.keep_ok (c.fact 76 (f := .keep "check_number") rfl)
  d_check_many := c.def_ 6 (d := ⟨("check_many", none), "check_many", "check_many", defArgs s_check_many, defBody s_check_many, defScope s_check_many, [], []⟩) rfl
  p_check_many := He.keep_ok (c.fact 77 (f := .keep "check_many") rfl)
  d_common_divisor := c.def_ 7 (d := ⟨("common_divisor", none), "common_divisor", "common_divisor", defArgs s_common_divisor, defBody s_common_divisor, defScope s_common_divisor, [], []⟩) rfl
  p_common_divisor := He.keep_ok (c.fact 78 (f := .keep "common_divisor") rfl)
  d_made := c.def_ 8 (d := ⟨("made", none), "made", "made", defArgs s_made, defBody s_made, defScope s_made, [], []⟩) rfl
  p_made := He.keep_ok (c.fact 79 (f := .keep "made") rfl)
  d_times := c.def_ 9 (d := ⟨("times", none), "times", "times", defArgs s_times, defBody s_times, defScope s_times, [], []⟩) rfl
  p_times := He.keep_ok (c.fact 80 (f := .keep "times") rfl)
  d_plus := c.def_ 10 (d := ⟨("plus", none), "plus", "plus", defArgs s_plus, defBody s_plus, defScope s_plus, [], []⟩) rfl
  p_plus := He.keep_ok (c.fact 81 (f := .keep "plus") rfl)
  d_Matching_init := c.def_ 11 (d := ⟨("Matching", some "__init__"), "__init__", "Matching.__init__", defArgs s_Matching_init, defBody s_Matching_init, defScope s_Matching_init, [], []⟩) rfl
  d_Matching_seat := c.def_ 12 (d := ⟨("Matching", some "seat"), "seat", "Matching.seat", defArgs s_Matching_seat, defBody s_Matching_seat, defScope s_Matching_seat, [], []⟩) rfl
  d_Matching_hand_on := c.def_ 13 (d := ⟨("Matching", some "hand_on"), "hand_on", "Matching.hand_on", defArgs s_Matching_hand_on, defBody s_Matching_hand_on, defScope s_Matching_hand_on, [], []⟩) rfl
  d_can_be_dealt := c.def_ 14 (d := ⟨("can_be_dealt", none), "can_be_dealt", "can_be_dealt", defArgs s_can_be_dealt, defBody s_can_be_dealt, defScope s_can_be_dealt, [], []⟩) rfl
  p_can_be_dealt := He.keep_ok (c.fact 82 (f := .keep "can_be_dealt") rfl)
  d_check_stuck := c.def_ 15 (d := ⟨("check_stuck", none), "check_stuck", "check_stuck", defArgs s_check_stuck, defBody s_check_stuck, defScope s_check_stuck, [], []⟩) rfl
  p_check_stuck := He.keep_ok (c.fact 83 (f := .keep "check_stuck") rfl)
  d_is_dealing := c.def_ 16 (d := ⟨("is_dealing", none), "is_dealing", "is_dealing", defArgs s_is_dealing, defBody s_is_dealing, defScope s_is_dealing, [], []⟩) rfl
  p_is_dealing := He.keep_ok (c.fact 84 (f := .keep "is_dealing") rfl)
  d_Table_init := c.def_ 17 (d := ⟨("Table", some "__init__"), "__init__", "Table.__init__", defArgs s_Table_init, defBody s_Table_init, defScope s_Table_init, [], []⟩) rfl
  d_Table_keep := c.def_ 18 (d := ⟨("Table", some "keep"), "keep", "Table.keep", defArgs s_Table_keep, defBody s_Table_keep, defScope s_Table_keep, [], []⟩) rfl
  d_Table___eq__ := c.def_ 19 (d := ⟨("Table", some "__eq__"), "__eq__", "Table.__eq__", defArgs s_Table___eq__, defBody s_Table___eq__, defScope s_Table___eq__, [], []⟩) rfl
  d_RawTable_init := c.def_ 20 (d := ⟨("RawTable", some "__init__"), "__init__", "RawTable.__init__", defArgs s_RawTable_init, defBody s_RawTable_init, defScope s_RawTable_init, [], []⟩) rfl
  d_names := c.def_ 21 (d := ⟨("names", none), "names", "names", defArgs s_names, defBody s_names, defScope s_names, [], []⟩) rfl
  p_names := He.keep_ok (c.fact 85 (f := .keep "names") rfl)
  d_full := c.def_ 22 (d := ⟨("full", none), "full", "full", defArgs s_full, defBody s_full, defScope s_full, [], []⟩) rfl
  p_full := He.keep_ok (c.fact 86 (f := .keep "full") rfl)
  d_ring := c.def_ 23 (d := ⟨("ring", none), "ring", "ring", defArgs s_ring, defBody s_ring, defScope s_ring, [], []⟩) rfl
  p_ring := He.keep_ok (c.fact 87 (f := .keep "ring") rfl)
  d_bits := c.def_ 24 (d := ⟨("bits", none), "bits", "bits", defArgs s_bits, defBody s_bits, defScope s_bits, [], []⟩) rfl
  p_bits := He.keep_ok (c.fact 88 (f := .keep "bits") rfl)
  d_without := c.def_ 25 (d := ⟨("without", none), "without", "without", defArgs s_without, defBody s_without, defScope s_without, [], []⟩) rfl
  p_without := He.keep_ok (c.fact 89 (f := .keep "without") rfl)
  d_has := c.def_ 26 (d := ⟨("has", none), "has", "has", defArgs s_has, defBody s_has, defScope s_has, [], []⟩) rfl
  p_has := He.keep_ok (c.fact 90 (f := .keep "has") rfl)
  d_least_of := c.def_ 27 (d := ⟨("least_of", none), "least_of", "least_of", defArgs s_least_of, defBody s_least_of, defScope s_least_of, [], []⟩) rfl
  p_least_of := He.keep_ok (c.fact 91 (f := .keep "least_of") rfl)
  d_Counter_init := c.def_ 28 (d := ⟨("Counter", some "__init__"), "__init__", "Counter.__init__", defArgs s_Counter_init, defBody s_Counter_init, defScope s_Counter_init, [], []⟩) rfl
  d_Counter_of := c.def_ 29 (d := ⟨("Counter", some "of"), "of", "Counter.of", defArgs s_Counter_of, defBody s_Counter_of, defScope s_Counter_of, [], []⟩) rfl
  d_Counter_among := c.def_ 30 (d := ⟨("Counter", some "among"), "among", "Counter.among", defArgs s_Counter_among, defBody s_Counter_among, defScope s_Counter_among, [], []⟩) rfl
  d_Counter_total := c.def_ 31 (d := ⟨("Counter", some "total"), "total", "Counter.total", defArgs s_Counter_total, defBody s_Counter_total, defScope s_Counter_total, [], []⟩) rfl
  d_many_dealings := c.def_ 32 (d := ⟨("many_dealings", none), "many_dealings", "many_dealings", defArgs s_many_dealings, defBody s_many_dealings, defScope s_many_dealings, [], []⟩) rfl
  p_many_dealings := He.keep_ok (c.fact 92 (f := .keep "many_dealings") rfl)
  d_left_of := c.def_ 33 (d := ⟨("left_of", none), "left_of", "left_of", defArgs s_left_of, defBody s_left_of, defScope s_left_of, [], []⟩) rfl
  p_left_of := He.keep_ok (c.fact 93 (f := .keep "left_of") rfl)
  d_opens := c.def_ 34 (d := ⟨("opens", none), "opens", "opens", defArgs s_opens, defBody s_opens, defScope s_opens, [], []⟩) rfl
  p_opens := He.keep_ok (c.fact 94 (f := .keep "opens") rfl)
  d_after_draw := c.def_ 35 (d := ⟨("after_draw", none), "after_draw", "after_draw", defArgs s_after_draw, defBody s_after_draw, defScope s_after_draw, [], []⟩) rfl
  p_after_draw := He.keep_ok (c.fact 95 (f := .keep "after_draw") rfl)
  d_check_turn := c.def_ 36 (d := ⟨("check_turn", none), "check_turn", "check_turn", defArgs s_check_turn, defBody s_check_turn, defScope s_check_turn, [], []⟩) rfl
  p_check_turn := He.keep_ok (c.fact 96 (f := .keep "check_turn") rfl)
  d_check_custom := c.def_ 37 (d := ⟨("check_custom", none), "check_custom", "check_custom", defArgs s_check_custom, defBody s_check_custom, defScope s_check_custom, [], []⟩) rfl
  p_check_custom := He.keep_ok (c.fact 97 (f := .keep "check_custom") rfl)
  d_shared_out := c.def_ 38 (d := ⟨("shared_out", none), "shared_out", "shared_out", defArgs s_shared_out, defBody s_shared_out, defScope s_shared_out, [], []⟩) rfl
  p_shared_out := He.keep_ok (c.fact 98 (f := .keep "shared_out") rfl)
  d_Walk_init := c.def_ 39 (d := ⟨("Walk", some "__init__"), "__init__", "Walk.__init__", defArgs s_Walk_init, defBody s_Walk_init, defScope s_Walk_init, [], []⟩) rfl
  d_Walk_begin := c.def_ 40 (d := ⟨("Walk", some "begin"), "begin", "Walk.begin", defArgs s_Walk_begin, defBody s_Walk_begin, defScope s_Walk_begin, [], []⟩) rfl
  d_Walk_is_over := c.def_ 41 (d := ⟨("Walk", some "is_over"), "is_over", "Walk.is_over", defArgs s_Walk_is_over, defBody s_Walk_is_over, defScope s_Walk_is_over, [], []⟩) rfl
  d_Walk_leaves_some := c.def_ 42 (d := ⟨("Walk", some "leaves_some"), "leaves_some", "Walk.leaves_some", defArgs s_Walk_leaves_some, defBody s_Walk_leaves_some, defScope s_Walk_leaves_some, [], []⟩) rfl
  d_Walk_drawn_from := c.def_ 43 (d := ⟨("Walk", some "drawn_from"), "drawn_from", "Walk.drawn_from", defArgs s_Walk_drawn_from, defBody s_Walk_drawn_from, defScope s_Walk_drawn_from, [], []⟩) rfl
  d_Walk_choices := c.def_ 44 (d := ⟨("Walk", some "choices"), "choices", "Walk.choices", defArgs s_Walk_choices, defBody s_Walk_choices, defScope s_Walk_choices, [], []⟩) rfl
  d_Walk_through := c.def_ 45 (d := ⟨("Walk", some "through"), "through", "Walk.through", defArgs s_Walk_through, defBody s_Walk_through, defScope s_Walk_through, [], []⟩) rfl
  d_Walk_product := c.def_ 46 (d := ⟨("Walk", some "product"), "product", "Walk.product", defArgs s_Walk_product, defBody s_Walk_product, defScope s_Walk_product, [], []⟩) rfl
  d_Narrowed_init := c.def_ 47 (d := ⟨("Narrowed", some "__init__"), "__init__", "Narrowed.__init__", defArgs s_Narrowed_init, defBody s_Narrowed_init, defScope s_Narrowed_init, [], []⟩) rfl
  d_Narrowed_among := c.def_ 48 (d := ⟨("Narrowed", some "among"), "among", "Narrowed.among", defArgs s_Narrowed_among, defBody s_Narrowed_among, defScope s_Narrowed_among, [], []⟩) rfl
  d_Narrowed_through := c.def_ 49 (d := ⟨("Narrowed", some "through"), "through", "Narrowed.through", defArgs s_Narrowed_through, defBody s_Narrowed_through, defScope s_Narrowed_through, [], []⟩) rfl
  d_Narrowed_products := c.def_ 50 (d := ⟨("Narrowed", some "products"), "products", "Narrowed.products", defArgs s_Narrowed_products, defBody s_Narrowed_products, defScope s_Narrowed_products, [], []⟩) rfl
  d_extremes := c.def_ 51 (d := ⟨("extremes", none), "extremes", "extremes", defArgs s_extremes, defBody s_extremes, defScope s_extremes, [], []⟩) rfl
  p_extremes := He.keep_ok (c.fact 99 (f := .keep "extremes") rfl)
  d_check_walk := c.def_ 52 (d := ⟨("check_walk", none), "check_walk", "check_walk", defArgs s_check_walk, defBody s_check_walk, defScope s_check_walk, [], []⟩) rfl
  p_check_walk := He.keep_ok (c.fact 100 (f := .keep "check_walk") rfl)
  d_stuck_walk := c.def_ 53 (d := ⟨("stuck_walk", none), "stuck_walk", "stuck_walk", defArgs s_stuck_walk, defBody s_stuck_walk, defScope s_stuck_walk, [], []⟩) rfl
  p_stuck_walk := He.keep_ok (c.fact 101 (f := .keep "stuck_walk") rfl)
  d_nothing_drawn := c.def_ 54 (d := ⟨("nothing_drawn", none), "nothing_drawn", "nothing_drawn", defArgs s_nothing_drawn, defBody s_nothing_drawn, defScope s_nothing_drawn, [], []⟩) rfl
  p_nothing_drawn := He.keep_ok (c.fact 102 (f := .keep "nothing_drawn") rfl)
  d_added := c.def_ 55 (d := ⟨("added", none), "added", "added", defArgs s_added, defBody s_added, defScope s_added, [], []⟩) rfl
  p_added := He.keep_ok (c.fact 103 (f := .keep "added") rfl)
  d_throws := c.def_ 56 (d := ⟨("throws", none), "throws", "throws", defArgs s_throws, defBody s_throws, defScope s_throws, [], []⟩) rfl
  p_throws := He.keep_ok (c.fact 104 (f := .keep "throws") rfl)
  d_all_chances := c.def_ 57 (d := ⟨("all_chances", none), "all_chances", "all_chances", defArgs s_all_chances, defBody s_all_chances, defScope s_all_chances, [], []⟩) rfl
  p_all_chances := He.keep_ok (c.fact 105 (f := .keep "all_chances") rfl)
  d_check_drawer := c.def_ 58 (d := ⟨("check_drawer", none), "check_drawer", "check_drawer", defArgs s_check_drawer, defBody s_check_drawer, defScope s_check_drawer, [], []⟩) rfl
  p_check_drawer := He.keep_ok (c.fact 106 (f := .keep "check_drawer") rfl)
  d_drawer_even := c.def_ 59 (d := ⟨("drawer_even", none), "drawer_even", "drawer_even", defArgs s_drawer_even, defBody s_drawer_even, defScope s_drawer_even, [], []⟩) rfl
  p_drawer_even := He.keep_ok (c.fact 107 (f := .keep "drawer_even") rfl)
  d_even_sides := c.def_ 60 (d := ⟨("even_sides", none), "even_sides", "even_sides", defArgs s_even_sides, defBody s_even_sides, defScope s_even_sides, [], []⟩) rfl
  p_even_sides := He.keep_ok (c.fact 108 (f := .keep "even_sides") rfl)
  d_is_even := c.def_ 61 (d := ⟨("is_even", none), "is_even", "is_even", defArgs s_is_even, defBody s_is_even, defScope s_is_even, [], []⟩) rfl
  p_is_even := He.keep_ok (c.fact 109 (f := .keep "is_even") rfl)
  d_law_pool := c.def_ 62 (d := ⟨("_law_pool", none), "_law_pool", "_law_pool", defArgs s_law_pool, defBody s_law_pool, defScope s_law_pool, [], []⟩) rfl
  p_law_pool := He.keep_ok (c.fact 110 (f := .keep "_law_pool") rfl)
  d_law_draw := c.def_ 63 (d := ⟨("_law_draw", none), "_law_draw", "_law_draw", defArgs s_law_draw, defBody s_law_draw, defScope s_law_draw, [], []⟩) rfl
  p_law_draw := He.keep_ok (c.fact 111 (f := .keep "_law_draw") rfl)
  d_law_mixed := c.def_ 64 (d := ⟨("_law_mixed", none), "_law_mixed", "_law_mixed", defArgs s_law_mixed, defBody s_law_mixed, defScope s_law_mixed, [], []⟩) rfl
  p_law_mixed := He.keep_ok (c.fact 112 (f := .keep "_law_mixed") rfl)
  d_law_blocks := c.def_ 65 (d := ⟨("_law_blocks", none), "_law_blocks", "_law_blocks", defArgs s_law_blocks, defBody s_law_blocks, defScope s_law_blocks, [], []⟩) rfl
  p_law_blocks := He.keep_ok (c.fact 113 (f := .keep "_law_blocks") rfl)
  d_law_rows := c.def_ 66 (d := ⟨("_law_rows", none), "_law_rows", "_law_rows", defArgs s_law_rows, defBody s_law_rows, defScope s_law_rows, [], []⟩) rfl
  p_law_rows := He.keep_ok (c.fact 114 (f := .keep "_law_rows") rfl)
  d_law_all := c.def_ 67 (d := ⟨("_law_all", none), "_law_all", "_law_all", defArgs s_law_all, defBody s_law_all, defScope s_law_all, [], []⟩) rfl
  p_law_all := He.keep_ok (c.fact 115 (f := .keep "_law_all") rfl)
  d_law_fits := c.def_ 68 (d := ⟨("_law_fits", none), "_law_fits", "_law_fits", defArgs s_law_fits, defBody s_law_fits, defScope s_law_fits, [], []⟩) rfl
  p_law_fits := He.keep_ok (c.fact 116 (f := .keep "_law_fits") rfl)
  d_law_wide_rows := c.def_ 69 (d := ⟨("_law_wide_rows", none), "_law_wide_rows", "_law_wide_rows", defArgs s_law_wide_rows, defBody s_law_wide_rows, defScope s_law_wide_rows, [], []⟩) rfl
  p_law_wide_rows := He.keep_ok (c.fact 117 (f := .keep "_law_wide_rows") rfl)
  d_law_flag := c.def_ 70 (d := ⟨("_law_flag", none), "_law_flag", "_law_flag", defArgs s_law_flag, defBody s_law_flag, defScope s_law_flag, [], []⟩) rfl
  p_law_flag := He.keep_ok (c.fact 118 (f := .keep "_law_flag") rfl)
  d_law_divisor := c.def_ 71 (d := ⟨("_law_divisor", none), "_law_divisor", "_law_divisor", defArgs s_law_divisor, defBody s_law_divisor, defScope s_law_divisor, [], []⟩) rfl
  p_law_divisor := He.keep_ok (c.fact 119 (f := .keep "_law_divisor") rfl)
  d_law_shares := c.def_ 72 (d := ⟨("_law_shares", none), "_law_shares", "_law_shares", defArgs s_law_shares, defBody s_law_shares, defScope s_law_shares, [], []⟩) rfl
  p_law_shares := He.keep_ok (c.fact 120 (f := .keep "_law_shares") rfl)
  d_law_least_sides := c.def_ 73 (d := ⟨("_law_least_sides", none), "_law_least_sides", "_law_least_sides", defArgs s_law_least_sides, defBody s_law_least_sides, defScope s_law_least_sides, [], []⟩) rfl
  p_law_least_sides := He.keep_ok (c.fact 121 (f := .keep "_law_least_sides") rfl)
  d_law_part_drawer := c.def_ 74 (d := ⟨("_law_part_drawer", none), "_law_part_drawer", "_law_part_drawer", defArgs s_law_part_drawer, defBody s_law_part_drawer, defScope s_law_part_drawer, [], []⟩) rfl
  p_law_part_drawer := He.keep_ok (c.fact 122 (f := .keep "_law_part_drawer") rfl)
  d_law_told := c.def_ 75 (d := ⟨("_law_told", none), "_law_told", "_law_told", defArgs s_law_told, defBody s_law_told, defScope s_law_told, [], []⟩) rfl
  p_law_told := He.keep_ok (c.fact 123 (f := .keep "_law_told") rfl)
  d_law_refused := c.def_ 76 (d := ⟨("_law_refused", none), "_law_refused", "_law_refused", defArgs s_law_refused, defBody s_law_refused, defScope s_law_refused, [], []⟩) rfl
  p_law_refused := He.keep_ok (c.fact 124 (f := .keep "_law_refused") rfl)
  d_law_sides_right := c.def_ 77 (d := ⟨("_law_sides_right", none), "_law_sides_right", "_law_sides_right", defArgs s_law_sides_right, defBody s_law_sides_right, defScope s_law_sides_right, [], []⟩) rfl
  p_law_sides_right := He.keep_ok (c.fact 125 (f := .keep "_law_sides_right") rfl)
  d_law_drawers_right := c.def_ 78 (d := ⟨("_law_drawers_right", none), "_law_drawers_right", "_law_drawers_right", defArgs s_law_drawers_right, defBody s_law_drawers_right, defScope s_law_drawers_right, [], []⟩) rfl
  p_law_drawers_right := He.keep_ok (c.fact 126 (f := .keep "_law_drawers_right") rfl)
  d_law := c.def_ 79 (d := ⟨("law", none), "law", "law", defArgs s_law, defBody s_law, defScope s_law, [], []⟩) rfl
  p_law := He.keep_ok (c.fact 127 (f := .keep "law") rfl)
  c_Matching := He.cls_ok (c.fact 128 (f := .cls "Matching") rfl)
  mk_Matching := He.mkr_ok (c.fact 129 (f := .mkr "Matching") rfl)
  n_Matching_rows := He.noat_ok (c.fact 130 (f := .noat "Matching" "rows") rfl)
  n_Matching_of := He.noat_ok (c.fact 131 (f := .noat "Matching" "of") rfl)
  n_Matching_owner := He.noat_ok (c.fact 132 (f := .noat "Matching" "owner") rfl)
  n_Matching_left := He.noat_ok (c.fact 133 (f := .noat "Matching" "left") rfl)
  m_Matching_seat := He.meth_ok (c.fact 134 (f := .meth "Matching" "seat") rfl)
  m_Matching_hand_on := He.meth_ok (c.fact 135 (f := .meth "Matching" "hand_on") rfl)
  c_Table := He.cls_ok (c.fact 136 (f := .cls "Table") rfl)
  mk_Table := He.mkr_ok (c.fact 137 (f := .mkr "Table") rfl)
  n_Table_rows := He.noat_ok (c.fact 138 (f := .noat "Table" "rows") rfl)
  n_Table_size := He.noat_ok (c.fact 139 (f := .noat "Table" "size") rfl)
  m_Table_keep := He.meth_ok (c.fact 140 (f := .meth "Table" "keep") rfl)
  c_RawTable := He.cls_ok (c.fact 141 (f := .cls "RawTable") rfl)
  mk_RawTable := He.mkr_ok (c.fact 142 (f := .mkr "RawTable") rfl)
  n_RawTable_rows := He.noat_ok (c.fact 143 (f := .noat "RawTable" "rows") rfl)
  n_RawTable_size := He.noat_ok (c.fact 144 (f := .noat "RawTable" "size") rfl)
  m_RawTable_keep := He.meth_ok (c.fact 145 (f := .meth "RawTable" "keep") rfl)
  c_Counter := He.cls_ok (c.fact 146 (f := .cls "Counter") rfl)
  mk_Counter := He.mkr_ok (c.fact 147 (f := .mkr "Counter") rfl)
  n_Counter_rows := He.noat_ok (c.fact 148 (f := .noat "Counter" "rows") rfl)
  n_Counter_whole := He.noat_ok (c.fact 149 (f := .noat "Counter" "whole") rfl)
  n_Counter_known := He.noat_ok (c.fact 150 (f := .noat "Counter" "known") rfl)
  m_Counter_of := He.meth_ok (c.fact 151 (f := .meth "Counter" "of") rfl)
  m_Counter_among := He.meth_ok (c.fact 152 (f := .meth "Counter" "among") rfl)
  m_Counter_total := He.meth_ok (c.fact 153 (f := .meth "Counter" "total") rfl)
  c_Walk := He.cls_ok (c.fact 154 (f := .cls "Walk") rfl)
  mk_Walk := He.mkr_ok (c.fact 155 (f := .mkr "Walk") rfl)
  n_Walk_counter := He.noat_ok (c.fact 156 (f := .noat "Walk" "counter") rfl)
  n_Walk_turn := He.noat_ok (c.fact 157 (f := .noat "Walk" "turn") rfl)
  n_Walk_custom := He.noat_ok (c.fact 158 (f := .noat "Walk" "custom") rfl)
  n_Walk_waiting := He.noat_ok (c.fact 159 (f := .noat "Walk" "waiting") rfl)
  n_Walk_kept := He.noat_ok (c.fact 160 (f := .noat "Walk" "kept") rfl)
  n_Walk_all_through := He.noat_ok (c.fact 161 (f := .noat "Walk" "all_through") rfl)
  m_Walk_begin := He.meth_ok (c.fact 162 (f := .meth "Walk" "begin") rfl)
  m_Walk_is_over := He.meth_ok (c.fact 163 (f := .meth "Walk" "is_over") rfl)
  m_Walk_drawn_from := He.meth_ok (c.fact 164 (f := .meth "Walk" "drawn_from") rfl)
  m_Walk_choices := He.meth_ok (c.fact 165 (f := .meth "Walk" "choices") rfl)
  c_Narrowed := He.cls_ok (c.fact 166 (f := .cls "Narrowed") rfl)
  mk_Narrowed := He.mkr_ok (c.fact 167 (f := .mkr "Narrowed") rfl)
  n_Narrowed_walk := He.noat_ok (c.fact 168 (f := .noat "Narrowed" "walk") rfl)
  n_Narrowed_forced := He.noat_ok (c.fact 169 (f := .noat "Narrowed" "forced") rfl)
  n_Narrowed_known := He.noat_ok (c.fact 170 (f := .noat "Narrowed" "known") rfl)
  m_Narrowed_among := He.meth_ok (c.fact 171 (f := .meth "Narrowed" "among") rfl)
  m_Narrowed_products := He.meth_ok (c.fact 172 (f := .meth "Narrowed" "products") rfl)
  d_RawTable_keep := c.def_ 80 (d := ⟨("RawTable", some "keep"), "keep", "Table.keep", defArgs s_Table_keep, defBody s_Table_keep, defScope s_Table_keep, [], []⟩) rfl
  k_MOST_PEOPLE_tables := He.int_ok X G (c.fact 173 (f := .int "MOST_PEOPLE_tables" 12) rfl)
  k_MOST_SIDES := He.int_ok X G (c.fact 174 (f := .int "MOST_SIDES" 12) rfl)
  k_MOST_PEOPLE_strangers := He.int_ok X G (c.fact 175 (f := .int "MOST_PEOPLE_strangers" 6) rfl)
  k_MOST_EVEN := He.int_ok X G (c.fact 176 (f := .int "MOST_EVEN" 5000) rfl)
  k_STUCK := He.str_ok X G (c.fact 177 (f := .str "STUCK" "stuck") rfl)
  g_CUSTOMS := He.glo_ok X G (c.fact 178 (f := .glo "CUSTOMS") rfl)
  f_len := He.free_ok X G (c.fact 179 (f := .free "len") rfl)
  f_abs := He.free_ok X G (c.fact 180 (f := .free "abs") rfl)
  f_sum := He.free_ok X G (c.fact 181 (f := .free "sum") rfl)
  f_all := He.free_ok X G (c.fact 182 (f := .free "all") rfl)
  f_isinstance := He.free_ok X G (c.fact 183 (f := .free "isinstance") rfl)
  f_sorted := He.free_ok X G (c.fact 184 (f := .free "sorted") rfl)
  f_max := He.free_ok X G (c.fact 185 (f := .free "max") rfl)
  f_min := He.free_ok X G (c.fact 186 (f := .free "min") rfl)
  f_int := He.free_ok X G (c.fact 187 (f := .free "int") rfl)
  f_tuple := He.free_ok X G (c.fact 188 (f := .free "tuple") rfl)
  f_list := He.free_ok X G (c.fact 189 (f := .free "list") rfl)
  f_str := He.free_ok X G (c.fact 190 (f := .free "str") rfl)
  f_bool := He.free_ok X G (c.fact 191 (f := .free "bool") rfl)
  f_set := He.free_ok X G (c.fact 192 (f := .free "set") rfl)
  f_range := He.free_ok X G (c.fact 193 (f := .free "range") rfl)
  f_zip := He.free_ok X G (c.fact 194 (f := .free "zip") rfl)
  f_enumerate := He.free_ok X G (c.fact 195 (f := .free "enumerate") rfl)
  f_ValueError := He.free_ok X G (c.fact 196 (f := .free "ValueError") rfl)
theorem hx_ok (X : K.In h) (G : h.Ns mainGlobals mg) (c : He.SaysD faL fnL K) : Hx K mg := by
  have eNoTurn := He.exc_ok (c.fact 197 (f := .exc "NoTurn") rfl)
  have eStuck := He.exc_ok (c.fact 198 (f := .exc "Stuck") rfl)
  exact ⟨⟨He.glo_ok X G (c.fact 6 (f := .glo "NoTurn") rfl), eNoTurn.1, eNoTurn.2.1, eNoTurn.2.2.1, eNoTurn.2.2.2⟩, ⟨He.glo_ok X G (c.fact 5 (f := .glo "Stuck") rfl), eStuck.1, eStuck.2.1, eStuck.2.2.1, eStuck.2.2.2⟩⟩
end
/-- what the head says gives the law's promise -/
theorem law_at {w : World} {K : PySem.W.Frag} {mg : Str → Option Value} {h : Heap} {f : Addr} (X : K.In h) (G : h.Ns mainGlobals mg) (hf : mg ("law" : Str) = some (.ref f)) (c : SaysZ w h K) :
    LamX.LawAtS PySem.Challenge.rw_fullorring_k92_whole_sides_of_even_drawe w K CX0 37 63 "_law_script" mg f h := by
  have T := hd_ok X G c.x.t.d
  have TX := hx_ok X G c.x.t.d
  have TY := hy_ok c.x.more
  have TT := ht_ok c.x.more
  have TM := tm_ok c.x.more c.f
  have ef : f = He.ga K "law" := by
    have e := hf.symm.trans T.g_law
    injection e with e
    injection e
  subst ef
  obtain ⟨fd, F⟩ := T.d_law
  have hb := FunD.bindsA (ps := ["_law_script"]) F fun _ _ _ _ _ _ us hl => match us, hl with | [_], _ => rfl
  refine ⟨fd, [He.cT K kPart], spLaw K, fun p hp => ?_, fun p hp => ?_, fun p hp => ?_, fun s u => hb s [u] rfl, fun H a ns hl _ hT hS => ?_, fun base KB GB hTB => ?_⟩
  · rw [List.mem_singleton.mp hp]
    exact c.x.empty kPart (List.mem_singleton.mpr rfl)
  · rw [List.mem_singleton.mp hp]
    exact c.x.out kPart (List.mem_singleton.mpr rfl)
  · rw [List.mem_singleton.mp hp]
    exact PySem.W.codeHd_of_K X (c.x.hd kPart (List.mem_singleton.mpr rfl))
  · refine ⟨a, ns, rfl, hS, hl, fun p hp => ?_, fun _ => rfl⟩
    rw [List.mem_singleton.mp hp]
    exact ⟨#[], hT _ (List.mem_singleton.mpr rfl), trivial, fun pos cv z => nomatch z⟩
  · exact D_law T TX TY TT (hTB _ (List.mem_singleton.mpr rfl)) (fun {w base} => D_check_many T TM) F
end Fo
end
section
set_option Elab.async false
set_option linter.all false
set_option maxRecDepth 100000
set_option maxHeartbeats 0
namespace Fo
open PySem PySem.Spec PyProof.Rows L2
abbrev hkZ : PySem.W.Hook := hookZ 5
def obL (s : PySem.W.SharedT) : AlZ := obsZ 5 (HandSHeadRun.getT s)
theorem obL_eq (s : PySem.W.SharedT) : obL s = hkZ.obs s.abs := obsZ_eq (HandSHeadRun.getT_eq s)
def nm0 : List PySem.Str := [("_wall" : PySem.Str), ("__name__" : PySem.Str), ("DrawError" : PySem.Str), ("BadTable" : PySem.Str), ("NoNumber" : PySem.Str), ("TooMany" : PySem.Str), ("Stuck" : PySem.Str), ("NoTurn" : PySem.Str), ("NoCustom" : PySem.Str), ("is_integer" : PySem.Str), ("is_within" : PySem.Str), ("are_ascending" : PySem.Str), ("is_lot_of" : PySem.Str), ("is_all_of" : PySem.Str), ("check_number" : PySem.Str), ("check_many" : PySem.Str)]
def nm1 : List PySem.Str := [("common_divisor" : PySem.Str), ("made" : PySem.Str), ("times" : PySem.Str), ("plus" : PySem.Str), ("Matching" : PySem.Str), ("can_be_dealt" : PySem.Str), ("check_stuck" : PySem.Str), ("is_dealing" : PySem.Str), ("MOST_PEOPLE_tables" : PySem.Str), ("Table" : PySem.Str), ("RawTable" : PySem.Str), ("names" : PySem.Str), ("full" : PySem.Str), ("ring" : PySem.Str), ("bits" : PySem.Str), ("without" : PySem.Str)]
def nm2 : List PySem.Str := [("has" : PySem.Str), ("least_of" : PySem.Str), ("Counter" : PySem.Str), ("many_dealings" : PySem.Str), ("left_of" : PySem.Str), ("opens" : PySem.Str), ("after_draw" : PySem.Str), ("CUSTOMS" : PySem.Str), ("check_turn" : PySem.Str), ("check_custom" : PySem.Str), ("shared_out" : PySem.Str), ("Walk" : PySem.Str), ("Narrowed" : PySem.Str), ("extremes" : PySem.Str), ("check_walk" : PySem.Str), ("stuck_walk" : PySem.Str)]
def nm3 : List PySem.Str := [("nothing_drawn" : PySem.Str), ("MOST_SIDES" : PySem.Str), ("MOST_PEOPLE_strangers" : PySem.Str), ("MOST_EVEN" : PySem.Str), ("STUCK" : PySem.Str), ("added" : PySem.Str), ("throws" : PySem.Str), ("all_chances" : PySem.Str), ("check_drawer" : PySem.Str), ("drawer_even" : PySem.Str), ("even_sides" : PySem.Str), ("is_even" : PySem.Str), ("_law_pool" : PySem.Str), ("_law_draw" : PySem.Str), ("_law_mixed" : PySem.Str), ("_law_blocks" : PySem.Str)]
def nm4 : List PySem.Str := [("_law_rows" : PySem.Str), ("_law_all" : PySem.Str), ("_law_fits" : PySem.Str), ("_law_wide_rows" : PySem.Str), ("_law_flag" : PySem.Str), ("_law_divisor" : PySem.Str), ("_law_shares" : PySem.Str), ("_law_least_sides" : PySem.Str), ("_law_part_drawer" : PySem.Str), ("_law_told" : PySem.Str), ("_law_refused" : PySem.Str), ("_law_sides_right" : PySem.Str), ("_law_drawers_right" : PySem.Str)]
def loose : List PySem.Str := nm0 ++ nm1 ++ nm2 ++ nm3 ++ nm4
theorem runL (w : World) : HandSHeadRun.RunEq Rw (PySem.W.view Rw.prog [87]) hkZ obL 20000 loose w := by
  intro os
  kernel_rfl
end Fo
end
section
set_option Elab.async false
set_option linter.all false
set_option maxRecDepth 100000
set_option maxHeartbeats 0
open PySem PySem.W PySem.Calls PyProof.Rows
theorem PySem.Challenge.cw_fullorring_k92_whole_sides_of_even_drawe_holds : PySem.Challenge.rw_fullorring_k92_whole_sides_of_even_drawe.Holds := by
  w_on; o_law
  refine HandSHeadRun.head_any (r := Fo.Rw) (q := view Fo.Rw.prog [87]) (H := Fo.hkZ) (ob := Fo.obL) (M := 20000) (loose := Fo.loose) (d := HandSHeadRun.topDef Fo.Rw.prog 87) (kwd := []) Fo.obL_eq
    (by kernel_rfl) (fun s => by kernel_rfl) Fo.runL (by kernel_rfl) (by kernel_rfl) (by kernel_rfl) (by rfl) (by first | assumption | decide +kernel) (by decide +kernel) ⟨rfl, rfl, rfl, rfl, rfl, by decide +kernel⟩ ?hw ?hc
  case hw => w_witness2
  case hc =>
    refine LamX.walk_ofTsE (l := PySem.Challenge.rw_fullorring_k92_whole_sides_of_even_drawe) (n := 63) (k := 37) (x := "_law_script") (CX := fun _ => L2.CX0) rfl (by decide) (by kernel_rfl) ⟨rfl, by decide, by decide⟩ ?F (fun _ _ _ _ _ z => z)
    intro w mg fa h Y G hmg0
    obtain ⟨K, KX, c⟩ := Y
    have hmg : mg ("law" : PySem.Str) = some (.ref fa) := by
      have e : (HandSHeadRun.topDef Fo.Rw.prog 87).name = ("law" : PySem.Str) := by kernel_rfl
      rw [← e]
      exact hmg0
    exact ⟨K, KX, Fo.law_at KX G hmg c⟩
end
