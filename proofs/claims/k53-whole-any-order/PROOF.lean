import PyProof.Rows.All
import Wide.All
import OpenK.AllK
import Wide.FinOn
import HandS.ForMost
import HandS.IsInst
import HandS.Zip
import HandS.TupSets
import HandS.Strs
import HandS.More
import KE.GoesEnum
import KE.GoesMore
import HandS.SortRule
import KE.KDictPairs
import HandS.TryOnly
import HandS.ExcInit
import KE.GoesRaise
import HandS.Words
import HandS.SetFor
import HandS.Walk
import HandS.Rev
import HandS.WordsExc
import HandS.Deep
import HandS.ExcOwn
import PySem.Challenge.RW_fewfills_k53_whole_any_order

/-! ## FFNum -/
section
set_option linter.all false
namespace FF

/-! ### lowest terms -/
/-- the divisor that the program takes: the greatest one, with the bottom's sign -/
def gdiv (t b : Int) : Int := if b < 0 then -((Int.gcd t b : Nat) : Int) else ((Int.gcd t b : Nat) : Int)
theorem gdiv_ne {t b : Int} (hb : b ≠ 0) : gdiv t b ≠ 0 := by
  have h : Int.gcd t b ≠ 0 := fun e => hb (Int.gcd_eq_zero_iff.mp e).2
  unfold gdiv
  split <;> omega
theorem gdiv_num {t b : Int} (hb : b ≠ 0) : t.fdiv (gdiv t b) = (Rat.divInt t b).num := by
  have h : Int.gcd t b ≠ 0 := fun e => hb (Int.gcd_eq_zero_iff.mp e).2
  rw [Rat.num_divInt, Int.gcd_comm b t]
  obtain ⟨k, hk⟩ := Int.gcd_dvd_left (a := t) (b := b)
  have hz : ((Int.gcd t b : Nat) : Int) ≠ 0 := by omega
  unfold gdiv
  generalize hg : ((Int.gcd t b : Nat) : Int) = g at *
  split
  · rename_i hn
    rw [Int.sign_eq_neg_one_of_neg hn, hk]
    rw [show g * k = -g * -k by rw [Int.neg_mul_neg], Int.mul_fdiv_cancel_left _ (by omega), show -1 * (-g * -k) = g * (-k) by grind, Int.mul_ediv_cancel_left _ hz]
  · rename_i hn
    rw [Int.sign_eq_one_of_pos (by omega), hk, Int.one_mul, Int.mul_fdiv_cancel_left _ hz, Int.mul_ediv_cancel_left _ hz]
theorem gdiv_den {t b : Int} (hb : b ≠ 0) : b.fdiv (gdiv t b) = ((Rat.divInt t b).den : Int) := by
  have h : Int.gcd t b ≠ 0 := fun e => hb (Int.gcd_eq_zero_iff.mp e).2
  rw [Rat.den_divInt, Int.gcd_comm b t, if_neg hb]
  obtain ⟨k, hk⟩ := Int.gcd_dvd_right (a := t) (b := b)
  have hz : ((Int.gcd t b : Nat) : Int) ≠ 0 := by omega
  have hp : (0 : Int) < ((Int.gcd t b : Nat) : Int) := by omega
  rw [Int.natCast_ediv]
  unfold gdiv
  generalize hg : ((Int.gcd t b : Nat) : Int) = g at *
  split
  · rename_i hn
    have e : ((b.natAbs : Nat) : Int) = g * -k := by
      rw [Int.ofNat_natAbs_of_nonpos (by omega), hk]; grind
    rw [e, Int.mul_ediv_cancel_left _ hz, hk, show g * k = -g * -k by rw [Int.neg_mul_neg], Int.mul_fdiv_cancel_left _ (by omega)]
  · rename_i hn
    have e : ((b.natAbs : Nat) : Int) = g * k := by rw [← hk]; omega
    rw [e, Int.mul_ediv_cancel_left _ hz, hk, Int.mul_fdiv_cancel_left _ hz]
theorem gdiv_mul_num {t b : Int} (hb : b ≠ 0) : t = gdiv t b * (Rat.divInt t b).num := by
  rw [← gdiv_num hb]
  have hd : gdiv t b ∣ t := by
    unfold gdiv
    split
    · exact Int.neg_dvd.mpr (Int.gcd_dvd_left _ _)
    · exact Int.gcd_dvd_left _ _
  obtain ⟨k, hk⟩ := hd
  have h0 := gdiv_ne (t := t) hb
  generalize gdiv t b = g at *
  subst hk
  rw [Int.mul_fdiv_cancel_left _ h0]
theorem gdiv_mul_den {t b : Int} (hb : b ≠ 0) : b = gdiv t b * ((Rat.divInt t b).den : Int) := by
  rw [← gdiv_den hb]
  have hd : gdiv t b ∣ b := by
    unfold gdiv
    split
    · exact Int.neg_dvd.mpr (Int.gcd_dvd_right _ _)
    · exact Int.gcd_dvd_right _ _
  obtain ⟨k, hk⟩ := hd
  have h0 := gdiv_ne (t := t) hb
  generalize gdiv t b = g at *
  subst hk
  rw [Int.mul_fdiv_cancel_left _ h0]

/-! ### the four operations -/
theorem plus_eq (a b : Rat) : Rat.divInt (a.num * b.den + b.num * a.den) (a.den * b.den) = a + b := by
  have ha : (a.den : Int) ≠ 0 := by have := a.den_nz; omega
  have hb : (b.den : Int) ≠ 0 := by have := b.den_nz; omega
  rw [← Rat.divInt_add_divInt _ _ ha hb, Rat.num_divInt_den, Rat.num_divInt_den]
theorem times_eq (a b : Rat) : Rat.divInt (a.num * b.num) (a.den * b.den) = a * b := by
  have ha : (a.den : Int) ≠ 0 := by have := a.den_nz; omega
  have hb : (b.den : Int) ≠ 0 := by have := b.den_nz; omega
  rw [← Rat.divInt_mul_divInt _ _, Rat.num_divInt_den, Rat.num_divInt_den]
theorem minus_eq (a b : Rat) : Rat.divInt (a.num * b.den - b.num * a.den) (a.den * b.den) = a - b := by
  have h := plus_eq a (-b)
  rw [Rat.neg_num, Rat.neg_den] at h
  rw [Rat.sub_eq_add_neg, ← h]
  congr 1
  grind
theorem over_eq (a b : Rat) (h : b ≠ 0) : Rat.divInt (a.num * b.den) (a.den * b.num) = a / b := by
  have ha : (a.den : Int) ≠ 0 := by have := a.den_nz; omega
  have hb : (b.den : Int) ≠ 0 := by have := b.den_nz; omega
  have hn : b.num ≠ 0 := fun e => h (Rat.num_eq_zero.mp e)
  rw [Rat.div_def, Rat.inv_def, ← Rat.divInt_mul_divInt _ _, Rat.num_divInt_den]
theorem divInt_num_den (q : Rat) : Rat.divInt q.num q.den = q := Rat.num_divInt_den q

/-! ### small numbers -/
/-- at most so many bits over and under -/
def Bd (k : Nat) (q : Rat) : Prop := q.num.natAbs < 2 ^ k ∧ q.den < 2 ^ k
theorem Bd.mono {j k : Nat} {q : Rat} (h : Bd j q) (l : j ≤ k) : Bd k q :=
  ⟨Nat.lt_of_lt_of_le h.1 (Nat.pow_le_pow_right (by decide) l), Nat.lt_of_lt_of_le h.2 (Nat.pow_le_pow_right (by decide) l)⟩
/-- any way of writing it bounds it -/
theorem Bd.of_frac {k : Nat} {q : Rat} {x d : Int} (hd : d ≠ 0) (e : q = Rat.divInt x d) (hx : x.natAbs < 2 ^ k) (hq : d.natAbs < 2 ^ k) : Bd k q := by
  subst e
  have e1 := gdiv_mul_num (t := x) hd
  have e2 := gdiv_mul_den (t := x) hd
  have h0 := gdiv_ne (t := x) hd
  have h1 : 1 ≤ (gdiv x d).natAbs := by omega
  have f1 := congrArg Int.natAbs e1
  have f2 := congrArg Int.natAbs e2
  rw [Int.natAbs_mul] at f1 f2
  refine ⟨Nat.lt_of_le_of_lt ?_ hx, Nat.lt_of_le_of_lt ?_ hq⟩
  · rw [f1]; exact Nat.le_mul_of_pos_left _ h1
  · rw [f2]
    have : ((Rat.divInt x d).den : Int).natAbs = (Rat.divInt x d).den := by omega
    rw [this]; exact Nat.le_mul_of_pos_left _ h1
end FF
end

/-! ## FFElim -/
section
set_option linter.all false
namespace FF

/-! ### sums over places -/
def sm : List Nat → (Nat → Rat) → Rat
  | [], _ => 0
  | a :: l, f => f a + sm l f
theorem sm_congr : ∀ {l : List Nat} {f g : Nat → Rat}, (∀ a ∈ l, f a = g a) → sm l f = sm l g
  | [], _, _, _ => rfl
  | a :: l, f, g, h => by
    show f a + sm l f = g a + sm l g
    rw [h a (List.mem_cons_self), sm_congr fun b hb => h b (List.mem_cons_of_mem _ hb)]
theorem sm_zero : ∀ {l : List Nat} {f : Nat → Rat}, (∀ a ∈ l, f a = 0) → sm l f = 0
  | [], _, _ => rfl
  | a :: l, f, h => by
    show f a + sm l f = 0
    rw [h a (List.mem_cons_self), sm_zero fun b hb => h b (List.mem_cons_of_mem _ hb)]
    grind
theorem sm_add : ∀ (l : List Nat) (f g : Nat → Rat), sm l (fun a => f a + g a) = sm l f + sm l g
  | [], _, _ => by show (0 : Rat) = 0 + 0; grind
  | a :: l, f, g => by
    show f a + g a + sm l (fun a => f a + g a) = f a + sm l f + (g a + sm l g)
    rw [sm_add l f g]; grind
theorem sm_sub' : ∀ (l : List Nat) (f g : Nat → Rat), sm l (fun a => f a - g a) = sm l f - sm l g
  | [], _, _ => by show (0 : Rat) = 0 - 0; grind
  | a :: l, f, g => by
    show f a - g a + sm l (fun a => f a - g a) = f a + sm l f - (g a + sm l g)
    rw [sm_sub' l f g]; grind
theorem sm_mul (c : Rat) : ∀ (l : List Nat) (f : Nat → Rat), sm l (fun a => c * f a) = c * sm l f
  | [], _ => by show (0 : Rat) = c * 0; grind
  | a :: l, f => by
    show c * f a + sm l (fun a => c * f a) = c * (f a + sm l f)
    rw [sm_mul c l f]; grind
theorem sm_append : ∀ (l m : List Nat) (f : Nat → Rat), sm (l ++ m) f = sm l f + sm m f
  | [], m, f => by show sm m f = 0 + sm m f; grind
  | a :: l, m, f => by
    show f a + sm (l ++ m) f = f a + sm l f + sm m f
    rw [sm_append l m f]; grind
theorem sm_perm {l m : List Nat} (f : Nat → Rat) (h : l.Perm m) : sm l f = sm m f := by
  induction h with
  | nil => rfl
  | cons a _ ih => show f a + _ = f a + _; rw [ih]
  | swap a b l => show f b + (f a + sm l f) = f a + (f b + sm l f); grind
  | trans _ _ h1 h2 => exact h1.trans h2
/-- what is nought may be left out -/
theorem sm_filter (p : Nat → Bool) : ∀ (l : List Nat) (f : Nat → Rat), (∀ a ∈ l, p a = false → f a = 0) → sm (l.filter p) f = sm l f
  | [], _, _ => rfl
  | a :: l, f, h => by
    have ih := sm_filter p l f fun b hb => h b (List.mem_cons_of_mem _ hb)
    rw [List.filter_cons]
    split
    · show f a + _ = f a + _; rw [ih]
    · rename_i hp
      show sm (l.filter p) f = f a + sm l f
      rw [ih, h a List.mem_cons_self (by simpa using hp)]; grind
/-- sums over two lists that hold the same places where something stands -/
theorem sm_same {l m : List Nat} {f : Nat → Rat} (hl : l.Nodup) (hm : m.Nodup) (h1 : ∀ a ∈ l, f a ≠ 0 → a ∈ m) (h2 : ∀ a ∈ m, f a ≠ 0 → a ∈ l) : sm l f = sm m f := by
  have z : ∀ a, decide (f a ≠ 0) = false → f a = 0 := fun a h => by simpa using h
  rw [← sm_filter (fun a => decide (f a ≠ 0)) l f fun a _ h => z a h, ← sm_filter (fun a => decide (f a ≠ 0)) m f fun a _ h => z a h]
  refine sm_perm f ((List.perm_ext_iff_of_nodup (hl.filter _) (hm.filter _)).mpr fun a => ?_)
  simp only [List.mem_filter, decide_eq_true_eq]
  exact ⟨fun ⟨x, y⟩ => ⟨h1 a x y, y⟩, fun ⟨x, y⟩ => ⟨h2 a x y, y⟩⟩
/-- one place taken out -/
theorem sm_out {l : List Nat} {i : Nat} (f : Nat → Rat) (hl : l.Nodup) (hi : i ∈ l) : sm l f = f i + sm (l.filter fun a => decide (a ≠ i)) f := by
  have e : l.Perm (i :: l.filter fun a => decide (a ≠ i)) := by
    refine (List.perm_ext_iff_of_nodup hl (List.nodup_cons.mpr ⟨by simp, hl.filter _⟩)).mpr fun a => ?_
    simp only [List.mem_cons, List.mem_filter, decide_eq_true_eq]
    by_cases h : a = i <;> simp [h, hi]
  rw [sm_perm f e]; rfl

/-! ### striking out -/
abbrev Mat := Nat → Nat → Rat
/-- v struck out of the rows of r -/
def stk (L : Mat) (v : Nat) (r : List Nat) : Mat := fun i j => if i ∈ r ∧ j ∈ r then L i j - L i v / L v v * L v j else L i j
/-- it has its pivots -/
def Piv : Mat → List Nat → Prop
  | _, [] => True
  | L, v :: r => L v v ≠ 0 ∧ Piv (stk L v r) r

/-! ### the work's product -/
def gstep (G L : Mat) (v : Nat) (r : List Nat) : Mat := fun i j =>
  G i j + (if i = v then 1 else if i ∈ r then L i v / L v v else 0) * (if j = v ∨ j ∈ r then L v j else 0)
def gsum : Mat → Mat → List Nat → Mat
  | G, _, [] => G
  | G, L, v :: r => gsum (gstep G L v r) (stk L v r) r
theorem gstep_eq {G L : Mat} {v : Nat} {r : List Nat} (hn : (v :: r).Nodup) (hp : L v v ≠ 0) (i j : Nat) :
    gstep G L v r i j + (if i ∈ r ∧ j ∈ r then stk L v r i j else 0) = G i j + (if i ∈ v :: r ∧ j ∈ v :: r then L i j else 0) := by
  have hv : v ∉ r := (List.nodup_cons.mp hn).1
  unfold gstep stk
  simp only [List.mem_cons]
  by_cases hi : i = v
  · subst hi
    by_cases hj : j = i
    · subst hj; simp [hv]; grind
    · by_cases hjr : j ∈ r <;> simp [hv, hj, hjr] <;> grind
  · by_cases hir : i ∈ r
    · by_cases hj : j = v
      · subst hj; simp [hi, hir, hv]; grind
      · by_cases hjr : j ∈ r <;> simp [hi, hir, hj, hjr] <;> grind
    · simp [hi, hir]; grind
theorem gsum_eq : ∀ {o : List Nat} {G L : Mat}, o.Nodup → Piv L o → ∀ i j, gsum G L o i j = G i j + (if i ∈ o ∧ j ∈ o then L i j else 0)
  | [], G, L, _, _, i, j => by show G i j = _; simp; grind
  | v :: r, G, L, hn, hp, i, j => by
    show gsum (gstep G L v r) (stk L v r) r i j = _
    rw [gsum_eq (List.nodup_cons.mp hn).2 hp.2 i j, gstep_eq hn hp.1]

/-! ### the answer -/
def fwd (L : Mat) (F : Nat → Rat) (v : Nat) (r : List Nat) : Nat → Rat := fun i => if i ∈ r then F i - L i v / L v v * F v else F i
def sol : Mat → (Nat → Rat) → List Nat → Nat → Rat
  | _, F, [] => F
  | L, F, v :: r => fun i => if i = v then (F v - sm r (fun j => L v j * sol (stk L v r) (fwd L F v r) r j)) / L v v else sol (stk L v r) (fwd L F v r) r i
theorem sol_right : ∀ {o : List Nat} {L : Mat} {F : Nat → Rat}, o.Nodup → Piv L o → ∀ i ∈ o, sm o (fun j => L i j * sol L F o j) = F i
  | [], _, _, _, _, i, hi => by cases hi
  | v :: r, L, F, hn, hp, i, hi => by
    have hv : v ∉ r := (List.nodup_cons.mp hn).1
    have ih := sol_right (o := r) (L := stk L v r) (F := fwd L F v r) (List.nodup_cons.mp hn).2 hp.2
    have e1 : ∀ k, sm r (fun j => L k j * sol L F (v :: r) j) = sm r (fun j => L k j * sol (stk L v r) (fwd L F v r) r j) := fun k => sm_congr fun j hj => by
      have : j ≠ v := fun e => hv (e ▸ hj)
      simp only [sol, this, if_false]
    have ev : sol L F (v :: r) v = (F v - sm r (fun j => L v j * sol (stk L v r) (fwd L F v r) r j)) / L v v := by simp [sol]
    show L i v * sol L F (v :: r) v + sm r (fun j => L i j * sol L F (v :: r) j) = F i
    rw [e1, ev]
    have hp1 := hp.1
    rcases List.mem_cons.mp hi with rfl | hir
    · grind
    · have q := ih i hir
      have e2 : sm r (fun j => stk L v r i j * sol (stk L v r) (fwd L F v r) r j) = sm r (fun j => L i j * sol (stk L v r) (fwd L F v r) r j) - L i v / L v v * sm r (fun j => L v j * sol (stk L v r) (fwd L F v r) r j) := by
        rw [← sm_mul, ← sm_sub']
        refine sm_congr fun j hj => ?_
        have : stk L v r i j = L i j - L i v / L v v * L v j := by unfold stk; rw [if_pos ⟨hir, hj⟩]
        rw [this]; grind
      rw [e2] at q
      have f : fwd L F v r i = F i - L i v / L v v * F v := by unfold fwd; rw [if_pos hir]
      rw [f] at q
      grind
theorem sol_one : ∀ {o : List Nat} {L : Mat} {w : Nat → Rat}, o.Nodup → Piv L o → (∀ i ∈ o, sm o (fun j => L i j * w j) = 0) → ∀ j ∈ o, w j = 0
  | [], _, _, _, _, _, j, hj => by cases hj
  | v :: r, L, w, hn, hp, h, j, hj => by
    have hv : v ∉ r := (List.nodup_cons.mp hn).1
    have hp1 := hp.1
    have h0 : L v v * w v + sm r (fun j => L v j * w j) = 0 := h v List.mem_cons_self
    have ih := sol_one (o := r) (L := stk L v r) (w := w) (List.nodup_cons.mp hn).2 hp.2 fun i hir => by
      have h1 : L i v * w v + sm r (fun j => L i j * w j) = 0 := h i (List.mem_cons_of_mem _ hir)
      have e2 : sm r (fun j => stk L v r i j * w j) = sm r (fun j => L i j * w j) - L i v / L v v * sm r (fun j => L v j * w j) := by
        rw [← sm_mul, ← sm_sub']
        refine sm_congr fun j hj => ?_
        have : stk L v r i j = L i j - L i v / L v v * L v j := by unfold stk; rw [if_pos ⟨hir, hj⟩]
        rw [this]; grind
      rw [e2]
      grind
    rcases List.mem_cons.mp hj with rfl | hjr
    · rw [sm_zero fun a ha => by rw [ih a ha]; grind] at h0
      grind
    · exact ih j hjr
/-- by two orders the answer is one -/
theorem sol_same {o o' : List Nat} {L : Mat} {F : Nat → Rat} (hn : o.Nodup) (hq : o'.Perm o) (h : Piv L o) (h' : Piv L o') : ∀ j ∈ o, sol L F o j = sol L F o' j := fun j hj => by
  have hn' := hq.nodup_iff.mpr hn
  have z := sol_one (w := fun j => sol L F o j - sol L F o' j) hn h fun i hi => by
    have a := sol_right (F := F) hn h i hi
    have b := sol_right (F := F) hn' h' i (hq.mem_iff.mpr hi)
    rw [sm_perm _ hq] at b
    have e : sm o (fun j => L i j * (sol L F o j - sol L F o' j)) = sm o (fun j => L i j * sol L F o j) - sm o (fun j => L i j * sol L F o' j) := by
      rw [← sm_sub']
      exact sm_congr fun j _ => by grind
    rw [e, a, b]; grind
  have := z j hj
  grind

/-! ### a middle above what stands beside it -/
def ab (q : Rat) : Rat := if q < 0 then -q else q
theorem ab_nonneg (q : Rat) : 0 ≤ ab q := by unfold ab; split <;> grind
theorem ab_zero : ab 0 = 0 := by unfold ab; split <;> grind
theorem ab_pos {q : Rat} (h : q ≠ 0) : 0 < ab q := by unfold ab; split <;> grind
theorem ne_of_ab {q : Rat} (h : 0 < ab q) : q ≠ 0 := fun e => by rw [e, ab_zero] at h; grind
theorem ab_sub_le (a b : Rat) : ab (a - b) ≤ ab a + ab b := by unfold ab; grind
theorem ab_sub_ge (a b : Rat) : ab a - ab b ≤ ab (a - b) := by unfold ab; grind
theorem mul_nn {a b : Rat} (ha : 0 ≤ a) (hb : 0 ≤ b) : 0 ≤ a * b := Rat.mul_nonneg ha hb
theorem ab_mul (a b : Rat) : ab (a * b) = ab a * ab b := by
  have key : ∀ x y : Rat, 0 ≤ x → 0 ≤ y → ab (x * y) = x * y := fun x y hx hy => by
    have := mul_nn hx hy
    unfold ab; split <;> grind
  have neg : ∀ x : Rat, ab (-x) = ab x := fun x => by unfold ab; grind
  have pos : ∀ x : Rat, 0 ≤ x → ab x = x := fun x hx => by unfold ab; grind
  rcases Rat.le_total (a := 0) (b := a) with ha | ha <;> rcases Rat.le_total (a := 0) (b := b) with hb | hb
  · rw [key a b ha hb, pos a ha, pos b hb]
  · rw [← neg (a * b), show -(a * b) = a * -b by grind, key a (-b) ha (by grind), pos a ha, ← neg b, pos (-b) (by grind)]
  · rw [← neg (a * b), show -(a * b) = -a * b by grind, key (-a) b (by grind) hb, pos b hb, ← neg a, pos (-a) (by grind)]
  · rw [show a * b = -a * -b by grind, key (-a) (-b) (by grind) (by grind), ← neg a, pos (-a) (by grind), ← neg b, pos (-b) (by grind)]
theorem sm_le : ∀ {l : List Nat} {f g : Nat → Rat}, (∀ a ∈ l, f a ≤ g a) → sm l f ≤ sm l g
  | [], _, _, _ => Rat.le_refl
  | a :: l, f, g, h => by
    have h1 := h a List.mem_cons_self
    have h2 := sm_le (l := l) (f := f) (g := g) fun b hb => h b (List.mem_cons_of_mem _ hb)
    show f a + sm l f ≤ g a + sm l g
    grind
theorem sm_nn {l : List Nat} {f : Nat → Rat} (h : ∀ a ∈ l, 0 ≤ f a) : 0 ≤ sm l f := by
  have := sm_le (l := l) (f := fun _ => 0) (g := f) h
  rwa [sm_zero fun _ _ => rfl] at this
/-- each middle is above the rest of its row -/
def Dom (L : Mat) (o : List Nat) : Prop := ∀ i ∈ o, sm (o.filter fun a => decide (a ≠ i)) (fun j => ab (L i j)) < ab (L i i)
theorem dom_arith {a s1 d sv b s2 t f e p : Rat} (hI : a + s1 < d) (out : sv = b + s2) (le : t ≤ s1 + f * s2) (ge : d - f * b ≤ e) (fe : f * p = a) (m : 0 ≤ f * (p - sv)) : t < e := by
  subst out
  have h1 : f * (p - (b + s2)) = a - f * b - f * s2 := by rw [← fe]; grind
  rw [h1] at m
  grind
theorem Dom.step {L : Mat} {v : Nat} {r : List Nat} (hn : (v :: r).Nodup) (h : Dom L (v :: r)) : L v v ≠ 0 ∧ Dom (stk L v r) r := by
  have hv : v ∉ r := (List.nodup_cons.mp hn).1
  have hr := (List.nodup_cons.mp hn).2
  have fv : (v :: r).filter (fun a => decide (a ≠ v)) = r := by
    rw [List.filter_cons, if_neg (by simp)]
    exact List.filter_eq_self.mpr fun a ha => by simpa using fun e : a = v => hv (e ▸ ha)
  have h0 := h v List.mem_cons_self
  rw [fv] at h0
  have nn : 0 ≤ sm r (fun j => ab (L v j)) := sm_nn fun a _ => ab_nonneg _
  have hpv : L v v ≠ 0 := ne_of_ab (by grind)
  refine ⟨hpv, fun i hi => ?_⟩
  have hiv : i ≠ v := fun e => hv (e ▸ hi)
  have hI := h i (List.mem_cons_of_mem _ hi)
  rw [List.filter_cons, if_pos (by simpa using Ne.symm hiv)] at hI
  have hI : ab (L i v) + sm (r.filter fun a => decide (a ≠ i)) (fun j => ab (L i j)) < ab (L i i) := hI
  have out := sm_out (fun j => ab (L v j)) hr hi
  have le : sm (r.filter fun a => decide (a ≠ i)) (fun j => ab (stk L v r i j)) ≤
      sm (r.filter fun a => decide (a ≠ i)) (fun j => ab (L i j)) + ab (L i v / L v v) * sm (r.filter fun a => decide (a ≠ i)) (fun j => ab (L v j)) := by
    rw [← sm_mul, ← sm_add]
    refine sm_le fun j hj => ?_
    have hjr := (List.mem_filter.mp hj).1
    unfold stk
    rw [if_pos ⟨hi, hjr⟩, ← ab_mul]
    exact ab_sub_le _ _
  have ge : ab (L i i) - ab (L i v / L v v) * ab (L v i) ≤ ab (stk L v r i i) := by
    unfold stk
    rw [if_pos ⟨hi, hi⟩, ← ab_mul]
    exact ab_sub_ge _ _
  have fe : ab (L i v / L v v) * ab (L v v) = ab (L i v) := by
    rw [← ab_mul]; congr 1; grind
  have m := mul_nn (ab_nonneg (L i v / L v v)) (show 0 ≤ ab (L v v) - sm r (fun j => ab (L v j)) by grind)
  exact dom_arith hI out le ge fe m
theorem Dom.piv : ∀ {o : List Nat} {L : Mat}, o.Nodup → Dom L o → Piv L o
  | [], _, _, _ => trivial
  | v :: r, L, hn, h => ⟨(h.step hn).1, Dom.piv (List.nodup_cons.mp hn).2 (h.step hn).2⟩
end FF
end

/-! ## FFTree -/
section
set_option linter.all false
namespace FF

/-! ### ways -/
inductive Conn (T : Nat → Nat → Prop) (S : Nat → Prop) : Nat → Nat → Prop
  | tie {a b : Nat} : T a b → Conn T S a b
  | via {a k b : Nat} : Conn T S a k → S k → Conn T S k b → Conn T S a b
section
variable {T : Nat → Nat → Prop} {S S' : Nat → Prop} {a b c : Nat}
theorem Conn.symm (hT : ∀ a b, T a b → T b a) (h : Conn T S a b) : Conn T S b a := by
  induction h with
  | tie h => exact .tie (hT _ _ h)
  | via _ hk _ h1 h2 => exact .via h2 hk h1
theorem Conn.mono (hS : ∀ k, S k → S' k) (h : Conn T S a b) : Conn T S' a b := by
  induction h with
  | tie h => exact .tie h
  | via _ hk _ h1 h2 => exact .via h1 (hS _ hk) h2
end

/-! ### the matrix by then, factors and rows by place -/
/-- the matrix behind the striking of pre, rest being left -/
def runM : Mat → List Nat → List Nat → Mat
  | L, [], _ => L
  | L, v :: p, rest => runM (stk L v (p ++ rest)) p rest
theorem runM_snoc : ∀ (p : List Nat) (L : Mat) (v : Nat) (rest : List Nat), runM L (p ++ [v]) rest = stk (runM L p (v :: rest)) v rest
  | [], L, v, rest => rfl
  | a :: p, L, v, rest => by
    show runM (stk L a (p ++ [v] ++ rest)) (p ++ [v]) rest = stk (runM (stk L a (p ++ v :: rest)) p (v :: rest)) v rest
    rw [runM_snoc p, List.append_assoc]; rfl
def lf : Mat → List Nat → Nat → Nat → Rat
  | _, [], _, _ => 0
  | L, v :: r, k, i => if k = v then (if i ∈ r then L i v / L v v else 0) else lf (stk L v r) r k i
def uf : Mat → List Nat → Nat → Nat → Rat
  | _, [], _, _ => 0
  | L, v :: r, k, j => if k = v then (if j = v ∨ j ∈ r then L v j else 0) else uf (stk L v r) r k j
theorem lf_at : ∀ (p : List Nat) (L : Mat) (v : Nat) (r : List Nat) (i : Nat), v ∉ p → lf L (p ++ v :: r) v i = if i ∈ r then runM L p (v :: r) i v / runM L p (v :: r) v v else 0
  | [], L, v, r, i, _ => by show lf L (v :: r) v i = _; simp [lf, runM]
  | a :: p, L, v, r, i, h => by
    have h1 : v ≠ a := fun e => h (by simp [e])
    show lf L (a :: (p ++ v :: r)) v i = _
    simp only [lf, h1, if_false, runM]
    exact lf_at p _ v r i fun e => h (List.mem_cons_of_mem _ e)
theorem uf_at : ∀ (p : List Nat) (L : Mat) (v : Nat) (r : List Nat) (j : Nat), v ∉ p → uf L (p ++ v :: r) v j = if j = v ∨ j ∈ r then runM L p (v :: r) v j else 0
  | [], L, v, r, i, _ => by show uf L (v :: r) v i = _; simp [uf, runM]
  | a :: p, L, v, r, i, h => by
    have h1 : v ≠ a := fun e => h (by simp [e])
    show uf L (a :: (p ++ v :: r)) v i = _
    simp only [uf, h1, if_false, runM]
    exact uf_at p _ v r i fun e => h (List.mem_cons_of_mem _ e)
theorem piv_at : ∀ (p : List Nat) (L : Mat) (v : Nat) (r : List Nat), Piv L (p ++ v :: r) → runM L p (v :: r) v v ≠ 0
  | [], L, v, r, h => h.1
  | a :: p, L, v, r, h => piv_at p _ v r h.2
theorem piv_of : ∀ (o : List Nat) (L : Mat), (∀ p v r, o = p ++ v :: r → runM L p (v :: r) v v ≠ 0) → Piv L o
  | [], L, _ => trivial
  | a :: o, L, h => ⟨h [] a o rfl, piv_of o _ fun p v r e => h (a :: p) v r (by rw [e]; rfl) |> fun q => by
      have : runM L (a :: p) (v :: r) = runM (stk L a o) p (v :: r) := by show runM (stk L a (p ++ v :: r)) p (v :: r) = _; rw [← e]
      rwa [this] at q⟩
/-- the matrix by then: what it was, less factors times rows -/
theorem stage : ∀ (p : List Nat) (L : Mat) (rest : List Nat), (p ++ rest).Nodup → ∀ i ∈ rest, ∀ j ∈ rest, runM L p rest i j = L i j - sm p (fun k => lf L (p ++ rest) k i * uf L (p ++ rest) k j)
  | [], L, rest, _, i, _, j, _ => by show L i j = L i j - 0; grind
  | v :: p, L, rest, hn, i, hi, j, hj => by
    have hn' : (v :: (p ++ rest)).Nodup := hn
    obtain ⟨hv, hr⟩ := List.nodup_cons.mp hn'
    show runM (stk L v (p ++ rest)) p rest i j = L i j - (lf L (v :: (p ++ rest)) v i * uf L (v :: (p ++ rest)) v j + sm p (fun k => lf L (v :: (p ++ rest)) k i * uf L (v :: (p ++ rest)) k j))
    rw [stage p (stk L v (p ++ rest)) rest hr i hi j hj]
    have e : sm p (fun k => lf L (v :: (p ++ rest)) k i * uf L (v :: (p ++ rest)) k j) = sm p (fun k => lf (stk L v (p ++ rest)) (p ++ rest) k i * uf (stk L v (p ++ rest)) (p ++ rest) k j) := sm_congr fun k hk => by
      have : k ≠ v := fun e => hv (e ▸ List.mem_append_left _ hk)
      simp only [lf, uf, this, if_false]
    have hi' := List.mem_append_right p hi
    have hj' := List.mem_append_right p hj
    have e2 : lf L (v :: (p ++ rest)) v i * uf L (v :: (p ++ rest)) v j = L i v / L v v * L v j := by
      simp only [lf, uf, if_true, hi', hj', or_true]
    have e3 : stk L v (p ++ rest) i j = L i j - L i v / L v v * L v j := by unfold stk; rw [if_pos ⟨hi', hj'⟩]
    rw [e, e2, e3]; grind

/-! ### what stands there came by a way -/
/-- symmetric, and wherever in a sheet something stands beside the middle -/
structure Web (T : Nat → Nat → Prop) (A : Mat) : Prop where
  sy : ∀ a b, T a b → T b a
  on : ∀ i j, i ≠ j → A i j ≠ 0 → T i j
theorem came {T : Nat → Nat → Prop} : ∀ (p : List Nat) (L : Mat) (S : Nat → Prop) (rest : List Nat), (p ++ rest).Nodup → (∀ i ∈ p ++ rest, ∀ j ∈ p ++ rest, i ≠ j → L i j ≠ 0 → Conn T S i j) →
    ∀ i ∈ rest, ∀ j ∈ rest, i ≠ j → runM L p rest i j ≠ 0 → Conn T (fun k => S k ∨ k ∈ p) i j
  | [], L, S, rest, _, h, i, hi, j, hj, ne, hz => (h i hi j hj ne hz).mono fun _ hk => .inl hk
  | v :: p, L, S, rest, hn, h, i, hi, j, hj, ne, hz => by
    have hn' : (v :: (p ++ rest)).Nodup := hn
    obtain ⟨hv, hr⟩ := List.nodup_cons.mp hn'
    have := came (T := T) p (stk L v (p ++ rest)) (fun k => S k ∨ k = v) rest hr (fun a ha b hb nab hab => ?_) i hi j hj ne hz
    · exact this.mono fun k hk => by
        rcases hk with (hk | hk) | hk
        · exact .inl hk
        · exact .inr (by simp [hk])
        · exact .inr (List.mem_cons_of_mem _ hk)
    · have ma : a ∈ v :: p ++ rest := List.mem_cons_of_mem _ ha
      have mb : b ∈ v :: p ++ rest := List.mem_cons_of_mem _ hb
      have mv : v ∈ v :: p ++ rest := List.mem_cons_self
      have nav : a ≠ v := fun e => hv (e ▸ ha)
      have nvb : v ≠ b := fun e => hv (e ▸ hb)
      have hab : stk L v (p ++ rest) a b ≠ 0 := hab
      unfold stk at hab
      rw [if_pos ⟨ha, hb⟩] at hab
      by_cases h0 : L a b = 0
      · have h1 : L a v ≠ 0 := fun e => hab (by rw [h0, e]; grind)
        have h2 : L v b ≠ 0 := fun e => hab (by rw [h0, e]; grind)
        exact .via ((h a ma v mv nav h1).mono fun _ hk => .inl hk) (.inr rfl) ((h v mv b mb nvb h2).mono fun _ hk => .inl hk)
      · exact (h a ma b mb nab h0).mono fun _ hk => .inl hk

/-! ### another order that keeps the tree -/
section
variable {T : Nat → Nat → Prop} {A : Mat} {o o' : List Nat}
/-- struck behind v, a way from v to w through places struck ahead of v -/
def After (T : Nat → Nat → Prop) (o : List Nat) (v w : Nat) : Prop := ∃ p r, o = p ++ v :: r ∧ w ∈ r ∧ Conn T (· ∈ p) v w
theorem split_one {o p p' r r' : List Nat} {v : Nat} (hn : o.Nodup) (e : o = p ++ v :: r) (e' : o = p' ++ v :: r') : p = p' ∧ r = r' := by
  have h1 : o.idxOf v = p.length := by
    rw [e, List.idxOf_append, if_neg]
    · simp
    · intro hv; rw [e] at hn; exact (List.nodup_append.mp hn).2.2 v hv v List.mem_cons_self rfl
  have h2 : o.idxOf v = p'.length := by
    rw [e', List.idxOf_append, if_neg]
    · simp
    · intro hv; rw [e'] at hn; exact (List.nodup_append.mp hn).2.2 v hv v List.mem_cons_self rfl
  have hl : p.length = p'.length := h1.symm.trans h2
  have q := e.symm.trans e'
  have := List.append_inj q hl
  exact ⟨this.1, (List.cons.inj this.2).2⟩
theorem lf_after (hW : Web T A) (hn : o.Nodup) {k i : Nat} (hk : k ∈ o) (h : lf A o k i ≠ 0) : After T o k i := by
  obtain ⟨p, r, e⟩ := List.append_of_mem hk
  have hn2 := hn
  rw [e] at hn2
  have hkp : k ∉ p := fun hm => (List.nodup_append.mp hn2).2.2 k hm k List.mem_cons_self rfl
  have hkr : k ∉ r := (List.nodup_cons.mp (List.nodup_append.mp hn2).2.1).1
  rw [e, lf_at p A k r i hkp] at h
  by_cases hi : i ∈ r
  · rw [if_pos hi] at h
    have hz : runM A p (k :: r) i k ≠ 0 := fun z => h (by rw [z]; grind)
    have c := came (T := T) p A (fun _ => False) (k :: r) hn2 (fun a _ b _ nab hab => .tie (hW.on a b nab hab)) i (List.mem_cons_of_mem _ hi) k List.mem_cons_self (fun e => hkr (e ▸ hi)) hz
    exact ⟨p, r, e, hi, (c.symm hW.sy).mono fun _ hk => by simpa using hk⟩
  · rw [if_neg hi] at h; exact absurd rfl h
theorem uf_after (hW : Web T A) (hn : o.Nodup) {k j : Nat} (hk : k ∈ o) (hj : j ≠ k) (h : uf A o k j ≠ 0) : After T o k j := by
  obtain ⟨p, r, e⟩ := List.append_of_mem hk
  have hn2 := hn
  rw [e] at hn2
  have hkp : k ∉ p := fun hm => (List.nodup_append.mp hn2).2.2 k hm k List.mem_cons_self rfl
  have hkr : k ∉ r := (List.nodup_cons.mp (List.nodup_append.mp hn2).2.1).1
  rw [e, uf_at p A k r j hkp] at h
  by_cases hi : j ∈ r
  · rw [if_pos (.inr hi)] at h
    have c := came (T := T) p A (fun _ => False) (k :: r) hn2 (fun a _ b _ nab hab => .tie (hW.on a b nab hab)) k List.mem_cons_self j (List.mem_cons_of_mem _ hi) (fun e => hkr (e ▸ hi)) h
    exact ⟨p, r, e, hi, c.mono fun _ hk => by simpa using hk⟩
  · rw [if_neg (by simp [hj, hi])] at h; exact absurd rfl h
theorem After.idx (hn : o.Nodup) {v w : Nat} (h : After T o v w) : o.idxOf v < o.idxOf w := by
  obtain ⟨p, r, e, hw, _⟩ := h
  have hn2 := hn
  rw [e] at hn2
  have hvp : v ∉ p := fun hm => (List.nodup_append.mp hn2).2.2 v hm v List.mem_cons_self rfl
  have hwp : w ∉ p := fun hm => (List.nodup_append.mp hn2).2.2 w hm w (List.mem_cons_of_mem _ hw) rfl
  have hvw : v ≠ w := fun q => (List.nodup_cons.mp (List.nodup_append.mp hn2).2.1).1 (q ▸ hw)
  rw [e, List.idxOf_append, if_neg hvp, List.idxOf_append, if_neg hwp, List.idxOf_cons_self, List.idxOf_cons, show (v == w) = false by simpa using hvw]
  simp only [cond_false]
  omega
/-- behind two places to which ways lead from k, the earlier has a way to the later -/
theorem After.join (hT : ∀ a b, T a b → T b a) (hn : o.Nodup) {k a b : Nat} (ha : After T o k a) (hb : After T o k b) (hab : o.idxOf a < o.idxOf b) : After T o a b := by
  obtain ⟨p, r, e, hw, c⟩ := ha
  obtain ⟨p', r', e', hw', c'⟩ := hb
  obtain ⟨rfl, rfl⟩ := split_one hn e e'
  obtain ⟨m, t, er⟩ := List.append_of_mem hw
  have eo : o = (p ++ k :: m) ++ a :: t := by rw [e, er]; simp
  have hn2 := hn
  rw [eo] at hn2
  have hbt : b ∈ t := by
    rw [er] at hw'
    rcases List.mem_append.mp hw' with hm | hm
    · have h1 : b ∈ p ++ k :: m := List.mem_append_right _ (List.mem_cons_of_mem _ hm)
      have h2 : a ∉ p ++ k :: m := fun hm' => (List.nodup_append.mp hn2).2.2 a hm' a List.mem_cons_self rfl
      have h3 : o.idxOf b < (p ++ k :: m).length := by rw [eo, List.idxOf_append, if_pos h1]; exact List.idxOf_lt_length_of_mem h1
      have h4 : o.idxOf a = (p ++ k :: m).length := by rw [eo, List.idxOf_append, if_neg h2]; simp
      omega
    · rcases List.mem_cons.mp hm with e | hm
      · rw [e] at hab; omega
      · exact hm
  refine ⟨p ++ k :: m, t, eo, hbt, .via ((c.symm hT).mono fun x hx => List.mem_append_left _ hx) (by simp) (c'.mono fun x hx => List.mem_append_left _ hx)⟩

/-- what the parents say, and what keeping asks -/
structure Tree (T : Nat → Nat → Prop) (o : List Nat) (par : Nat → Option Nat) : Prop where
  first : ∀ v p, par v = some p → After T o v p
  most : ∀ v w, After T o v w → ∃ p, par v = some p ∧ (p = w ∨ o.idxOf p < o.idxOf w)
theorem kept_after {par : Nat → Option Nat} (hT : ∀ a b, T a b → T b a) (hn : o.Nodup) (tr : Tree T o par) (hk : ∀ v p, v ∈ o → par v = some p → o'.idxOf v < o'.idxOf p) :
    ∀ (d : Nat) (v w : Nat), o.idxOf w - o.idxOf v ≤ d → After T o v w → o'.idxOf v < o'.idxOf w
  | 0, v, w, hd, h => by
    have := h.idx hn
    omega
  | d + 1, v, w, hd, h => by
    obtain ⟨p, hp, hpw⟩ := tr.most v w h
    have hv : v ∈ o := by obtain ⟨_, _, e, _⟩ := h; rw [e]; simp
    have h1 := hk v p hv hp
    rcases hpw with rfl | hlt
    · exact h1
    · have hvp := tr.first v p hp
      have i1 := hvp.idx hn
      have h2 := kept_after hT hn tr hk d p w (by omega) (hvp.join hT hn h hlt)
      omega

theorem idx_lt_split {o' p' r' : List Nat} {v : Nat} (hn : o'.Nodup) (e : o' = p' ++ v :: r') {k : Nat} (hk : o'.idxOf k < o'.idxOf v) : k ∈ p' := by
  rw [e] at hn
  have hv : v ∉ p' := fun hm => (List.nodup_append.mp hn).2.2 v hm v List.mem_cons_self rfl
  by_cases h : k ∈ p'
  · exact h
  · rw [e, List.idxOf_append, if_neg h, List.idxOf_append, if_neg hv] at hk
    simp at hk
    omega
theorem idx_gt_split {o' p' r' : List Nat} {v : Nat} (hn : o'.Nodup) (e : o' = p' ++ v :: r') {k : Nat} (hm : k ∈ o') (hk : o'.idxOf v < o'.idxOf k) : k ∈ r' := by
  rw [e] at hm
  rcases List.mem_append.mp hm with h | h
  · exfalso
    have hn2 := hn
    rw [e] at hn2
    have hv : v ∉ p' := fun hm => (List.nodup_append.mp hn2).2.2 v hm v List.mem_cons_self rfl
    rw [e, List.idxOf_append, if_neg hv, List.idxOf_append, if_pos h] at hk
    have := List.idxOf_lt_length_of_mem h
    omega
  · rcases List.mem_cons.mp h with rfl | h
    · omega
    · exact h
/-- THE SAME TUPLES: by an order that keeps the tree the matrix by then is the sheet's less the factors times rows of the first order -/
theorem keeps_stage {T : Nat → Nat → Prop} {A : Mat} {o o' : List Nat} {par : Nat → Option Nat} (hW : Web T A) (hn : o.Nodup) (hq : o'.Perm o) (hp : Piv A o) (tr : Tree T o par)
    (hk : ∀ v p, v ∈ o → par v = some p → o'.idxOf v < o'.idxOf p) :
    ∀ (n : Nat) (p' r' : List Nat), p'.length = n → o' = p' ++ r' →
      (∀ i ∈ r', ∀ j ∈ r', runM A p' r' i j = A i j - sm p' (fun k => lf A o k i * uf A o k j)) ∧
      (∀ v t, r' = v :: t → (∀ j ∈ r', runM A p' r' v j = uf A o v j) ∧ (∀ i ∈ t, runM A p' r' i v = lf A o v i * uf A o v v) ∧ uf A o v v ≠ 0) := by
  have hn' := hq.nodup_iff.mpr hn
  have bef : ∀ v w, After T o v w → o'.idxOf v < o'.idxOf w := fun v w h => kept_after hW.sy hn tr hk _ v w (Nat.le_refl _) h
  -- the second half follows from the first
  have half : ∀ (p' r' : List Nat), o' = p' ++ r' → (∀ i ∈ r', ∀ j ∈ r', runM A p' r' i j = A i j - sm p' (fun k => lf A o k i * uf A o k j)) →
      (∀ v t, r' = v :: t → (∀ j ∈ r', runM A p' r' v j = uf A o v j) ∧ (∀ i ∈ t, runM A p' r' i v = lf A o v i * uf A o v v) ∧ uf A o v v ≠ 0) := by
    intro p' r' e' h v t er
    subst er
    have hvo' : v ∈ o' := by rw [e']; simp
    have hvo : v ∈ o := hq.mem_iff.mp hvo'
    obtain ⟨p, r, e⟩ := List.append_of_mem hvo
    have hn2 := hn
    rw [e] at hn2
    have hvp : v ∉ p := fun hm => (List.nodup_append.mp hn2).2.2 v hm v List.mem_cons_self rfl
    have hvr : v ∉ r := (List.nodup_cons.mp (List.nodup_append.mp hn2).2.1).1
    have hn2' := hn'
    rw [e'] at hn2'
    have hvp' : v ∉ p' := fun hm => (List.nodup_append.mp hn2').2.2 v hm v List.mem_cons_self rfl
    have hvt : v ∉ t := (List.nodup_cons.mp (List.nodup_append.mp hn2').2.1).1
    have hnp : p.Nodup := (List.nodup_append.mp hn2).1
    have hnp' : p'.Nodup := (List.nodup_append.mp hn2').1
    have hpo : ∀ k ∈ p, k ∈ o := fun k hk => by rw [e]; exact List.mem_append_left _ hk
    have hpo' : ∀ k ∈ p', k ∈ o := fun k hk => hq.mem_iff.mp (by rw [e']; exact List.mem_append_left _ hk)
    have hpv : runM A p (v :: r) v v ≠ 0 := piv_at p A v r (e ▸ hp)
    have u0 : uf A o v v = runM A p (v :: r) v v := by rw [e, uf_at p A v r v hvp, if_pos (.inl rfl)]
    -- terms that count stand ahead of v, by both orders
    have inP : ∀ k, After T o k v → k ∈ p := fun k ha => idx_lt_split hn e (ha.idx hn)
    have inP' : ∀ k, After T o k v → k ∈ p' := fun k ha => idx_lt_split hn' e' (bef _ _ ha)
    have inT : ∀ j, j ∈ o → After T o v j → j ∈ t := fun j hj ha => idx_gt_split hn' e' (hq.mem_iff.mpr hj) (bef _ _ ha)
    have sumL : ∀ j, sm p' (fun k => lf A o k v * uf A o k j) = sm p (fun k => lf A o k v * uf A o k j) := fun j => by
      refine sm_same hnp' hnp (fun k hk hz => ?_) (fun k hk hz => ?_)
      · exact inP k (lf_after hW hn (hpo' k hk) fun q => hz (by rw [q]; grind))
      · exact inP' k (lf_after hW hn (hpo k hk) fun q => hz (by rw [q]; grind))
    have sumR : ∀ i, sm p' (fun k => lf A o k i * uf A o k v) = sm p (fun k => lf A o k i * uf A o k v) := fun i => by
      refine sm_same hnp' hnp (fun k hk hz => ?_) (fun k hk hz => ?_)
      · exact inP k (uf_after hW hn (hpo' k hk) (fun q => hvp' (q ▸ hk)) fun q => hz (by rw [q]; grind))
      · exact inP' k (uf_after hW hn (hpo k hk) (fun q => hvp (q ▸ hk)) fun q => hz (by rw [q]; grind))
    -- a place of t that is struck ahead of v in the first order has no business with v
    have out : ∀ j ∈ t, j ∉ r → o.idxOf j < o.idxOf v ∧ ¬ After T o j v := fun j hj hjr => by
      have hjo : j ∈ o := hq.mem_iff.mp (by rw [e']; exact List.mem_append_right _ (List.mem_cons_of_mem _ hj))
      have hjv : j ≠ v := fun q => hvt (q ▸ hj)
      constructor
      · have hjp : j ∈ p := by
          rw [e] at hjo
          rcases List.mem_append.mp hjo with h | h
          · exact h
          · rcases List.mem_cons.mp h with h | h
            · exact absurd h hjv
            · exact absurd h hjr
        rw [e, List.idxOf_append, if_pos hjp, List.idxOf_append, if_neg hvp]
        have := List.idxOf_lt_length_of_mem hjp
        omega
      · intro ha
        have h1 := inP' j ha
        exact (List.nodup_append.mp hn2').2.2 j h1 j (List.mem_cons_of_mem _ hj) rfl
    have tieOut : ∀ j, j ∈ o → o.idxOf j < o.idxOf v → T j v → After T o j v := fun j hj hlt ht => by
      obtain ⟨m, s, em⟩ := List.append_of_mem hj
      exact ⟨m, s, em, idx_gt_split hn em hvo hlt, .tie ht⟩
    have mo : ∀ j ∈ t, j ∈ o := fun j hj => hq.mem_iff.mp (by rw [e']; exact List.mem_append_right _ (List.mem_cons_of_mem _ hj))
    have stg := stage p A (v :: r) hn2
    refine ⟨fun j hj => ?_, fun i hi => ?_, by rw [u0]; exact hpv⟩
    · rw [h v List.mem_cons_self j hj]
      by_cases hjr : j = v ∨ j ∈ r
      · rw [sumL j]
        have : uf A o v j = runM A p (v :: r) v j := by rw [e, uf_at p A v r j hvp, if_pos hjr]
        rw [this, stg v List.mem_cons_self j (List.mem_cons.mpr hjr), ← e]
      · have hjv : j ≠ v := fun q => hjr (.inl q)
        have hjt : j ∈ t := (List.mem_cons.mp hj).resolve_left hjv
        obtain ⟨hlt, nA⟩ := out j hjt fun q => hjr (.inr q)
        have hjo := mo j hjt
        have z0 : A v j = 0 := Classical.byContradiction fun q => nA (tieOut j hjo hlt (hW.sy _ _ (hW.on v j (Ne.symm hjv) q)))
        have zs : sm p' (fun k => lf A o k v * uf A o k j) = 0 := sm_zero fun k hk => Classical.byContradiction fun q => by
          have a1 := lf_after hW hn (hpo' k hk) fun z => q (by rw [z]; grind)
          by_cases hkj : j = k
          · exact nA (hkj ▸ a1)
          · exact nA ((uf_after hW hn (hpo' k hk) hkj fun z => q (by rw [z]; grind)).join hW.sy hn a1 hlt)
        have : uf A o v j = 0 := by rw [e, uf_at p A v r j hvp, if_neg hjr]
        rw [this, z0, zs]; grind
    · have hiv : i ≠ v := fun q => hvt (q ▸ hi)
      rw [h i (List.mem_cons_of_mem _ hi) v List.mem_cons_self]
      by_cases hir : i ∈ r
      · rw [sumR i]
        have e1 : lf A o v i = runM A p (v :: r) i v / runM A p (v :: r) v v := by rw [e, lf_at p A v r i hvp, if_pos hir]
        have e2 := stg i (List.mem_cons_of_mem _ hir) v List.mem_cons_self
        rw [← e] at e2
        rw [u0, e1, ← e2]
        grind
      · obtain ⟨hlt, nA⟩ := out i hi hir
        have hio := mo i hi
        have z0 : A i v = 0 := Classical.byContradiction fun q => nA (tieOut i hio hlt (hW.on i v hiv q))
        have zs : sm p' (fun k => lf A o k i * uf A o k v) = 0 := sm_zero fun k hk => Classical.byContradiction fun q => by
          have a1 := uf_after (j := v) hW hn (hpo' k hk) (fun z => hvp' (z ▸ hk)) fun z => q (by rw [z]; grind)
          have hz : lf A o k i ≠ 0 := fun z => q (by rw [z]; grind)
          have a2 := lf_after hW hn (hpo' k hk) hz
          exact nA (a2.join hW.sy hn a1 hlt)
        have : lf A o v i = 0 := by rw [e, lf_at p A v r i hvp, if_neg hir]
        rw [this, z0, zs]; grind
  intro n
  induction n with
  | zero =>
    intro p' r' hl e'
    have : p' = [] := List.eq_nil_of_length_eq_zero hl
    subst this
    have f : ∀ i ∈ r', ∀ j ∈ r', runM A [] r' i j = A i j - sm [] (fun k => lf A o k i * uf A o k j) := fun i _ j _ => by show A i j = A i j - 0; grind
    exact ⟨f, half [] r' e' f⟩
  | succ n ih =>
    intro p' r' hl e'
    have hne : p' ≠ [] := fun q => by rw [q] at hl; cases hl
    obtain ⟨q, v, eq⟩ : ∃ q v, p' = q ++ [v] := ⟨p'.dropLast, p'.getLast hne, (List.dropLast_concat_getLast hne).symm⟩
    subst eq
    have hq' : q.length = n := by simp at hl; omega
    have e2 : o' = q ++ v :: r' := by rw [e']; simp
    obtain ⟨f1, f2⟩ := ih q (v :: r') hq' e2
    obtain ⟨g1, g2, g3⟩ := f2 v r' rfl
    have f : ∀ i ∈ r', ∀ j ∈ r', runM A (q ++ [v]) r' i j = A i j - sm (q ++ [v]) (fun k => lf A o k i * uf A o k j) := fun i hi j hj => by
      rw [runM_snoc, sm_append]
      unfold stk
      rw [if_pos ⟨hi, hj⟩, f1 i (List.mem_cons_of_mem _ hi) j (List.mem_cons_of_mem _ hj), g2 i hi, g1 v List.mem_cons_self, g1 j (List.mem_cons_of_mem _ hj)]
      show _ = A i j - (_ + (lf A o v i * uf A o v j + 0))
      have : lf A o v i * uf A o v v / uf A o v v = lf A o v i := by grind
      rw [this]; grind
    exact ⟨f, half _ r' e' f⟩
end
end FF
end

/-! ## FFSize -/
section
set_option linter.all false
namespace FF

theorem Bd.of_mul {k : Nat} {q : Rat} {x d : Int} (hd : d ≠ 0) (e : q * (d : Rat) = (x : Rat)) (hx : x.natAbs < 2 ^ k) (hq : d.natAbs < 2 ^ k) : Bd k q := by
  have hd' : (d : Rat) ≠ 0 := fun z => hd (by exact_mod_cast z)
  refine Bd.of_frac hd ?_ hx hq
  rw [Rat.divInt_eq_div, ← e]
  grind
theorem nab_mul {x y : Int} {a b : Nat} (hx : x.natAbs < 2 ^ a) (hy : y.natAbs < 2 ^ b) : (x * y).natAbs < 2 ^ (a + b) := by
  rw [Int.natAbs_mul, Nat.pow_add]
  exact Nat.mul_lt_mul'' hx hy
theorem nab_up {x : Int} {a b : Nat} (hx : x.natAbs < 2 ^ a) (h : a ≤ b) : x.natAbs < 2 ^ b := Nat.lt_of_lt_of_le hx (Nat.pow_le_pow_right (by decide) h)
theorem nab_sub {x y : Int} {a : Nat} (hx : x.natAbs < 2 ^ a) (hy : y.natAbs < 2 ^ a) : (x - y).natAbs < 2 ^ (a + 1) := by
  rw [Nat.pow_succ]; omega
theorem nab_add {x y : Int} {a : Nat} (hx : x.natAbs < 2 ^ a) (hy : y.natAbs < 2 ^ a) : (x + y).natAbs < 2 ^ (a + 1) := by
  rw [Nat.pow_succ]; omega

/-- whole sums -/
def ism : List Nat → (Nat → Int) → Int
  | [], _ => 0
  | a :: l, f => f a + ism l f
theorem ism_cast : ∀ (l : List Nat) (f : Nat → Int) (g : Nat → Rat) (m : Rat), (∀ a ∈ l, g a * m = (f a : Rat)) → sm l g * m = ((ism l f : Int) : Rat)
  | [], _, _, m, _ => by show (0 : Rat) * m = ((0 : Int) : Rat); simp
  | a :: l, f, g, m, h => by
    have h1 := h a List.mem_cons_self
    have h2 := ism_cast l f g m fun b hb => h b (List.mem_cons_of_mem _ hb)
    show (g a + sm l g) * m = ((f a + ism l f : Int) : Rat)
    rw [Rat.intCast_add, ← h1, ← h2]; grind
theorem ism_lt {k : Nat} : ∀ (l : List Nat) (f : Nat → Int), (∀ a ∈ l, (f a).natAbs < 2 ^ k) → (ism l f).natAbs ≤ l.length * 2 ^ k
  | [], _, _ => by show (0 : Int).natAbs ≤ _; simp
  | a :: l, f, h => by
    have h1 := h a List.mem_cons_self
    have h2 := ism_lt l f fun b hb => h b (List.mem_cons_of_mem _ hb)
    show (f a + ism l f).natAbs ≤ (l.length + 1) * 2 ^ k
    rw [Nat.add_mul]; omega

/-- the matrix and the right sides by then, over d i times one whole number -/
structure Stg (L : Mat) (F : Nat → Rat) (d : Nat → Int) (b : Nat) (o : List Nat) : Prop where
  ex : ∃ (Q : Int) (X : Nat → Nat → Int) (Y : Nat → Int), Q ≠ 0 ∧ Q.natAbs < 2 ^ (b + 1) ∧ ∀ i ∈ o, d i ≠ 0 ∧ (Y i).natAbs < 2 ^ b ∧ F i * ((d i : Rat) * (Q : Rat)) = (Y i : Rat) ∧
    ∀ j ∈ o, (X i j).natAbs < 2 ^ b ∧ L i j * ((d i : Rat) * (Q : Rat)) = (X i j : Rat)
theorem cast_ne {x : Int} (h : x ≠ 0) : (x : Rat) ≠ 0 := fun z => h (by exact_mod_cast z)
theorem Stg.step {L : Mat} {F : Nat → Rat} {d : Nat → Int} {b : Nat} {v : Nat} {r : List Nat} (h : Stg L F d b (v :: r)) (hp : L v v ≠ 0) : Stg (stk L v r) (fwd L F v r) d (2 * b + 1) r := by
  obtain ⟨Q, X, Y, hQ, hQb, hX⟩ := h.ex
  obtain ⟨dv, yv, fv, xv⟩ := hX v List.mem_cons_self
  obtain ⟨xvvb, xvv⟩ := xv v List.mem_cons_self
  have hQ' := cast_ne hQ
  have dv' := cast_ne dv
  have hxvv : X v v ≠ 0 := fun z => by
    rw [z] at xvv
    have : L v v * ((d v : Rat) * (Q : Rat)) = 0 := by rw [xvv]; rfl
    have h2 : (d v : Rat) * (Q : Rat) ≠ 0 := by grind
    grind
  have hxvv' := cast_ne hxvv
  refine ⟨Q * X v v, fun i j => X i j * X v v - X i v * X v j, fun i => Y i * X v v - X i v * Y v, ?_, ?_, fun i hi => ?_⟩
  · exact Int.mul_ne_zero hQ hxvv
  · exact nab_up (nab_mul hQb xvvb) (by omega)
  · obtain ⟨di, yi, fi, xi⟩ := hX i (List.mem_cons_of_mem _ hi)
    obtain ⟨xivb, xiv⟩ := xi v List.mem_cons_self
    have di' := cast_ne di
    refine ⟨di, nab_up (nab_sub (nab_mul yi xvvb) (nab_mul xivb yv)) (by omega), ?_, fun j hj => ?_⟩
    · unfold fwd
      rw [if_pos hi, Rat.intCast_sub, Rat.intCast_mul, Rat.intCast_mul, Rat.intCast_mul, ← fi, ← xvv, ← xiv, ← fv]
      grind
    · obtain ⟨xijb, xij⟩ := xi j (List.mem_cons_of_mem _ hj)
      obtain ⟨xvjb, xvj⟩ := xv j (List.mem_cons_of_mem _ hj)
      refine ⟨nab_up (nab_sub (nab_mul xijb xvvb) (nab_mul xivb xvjb)) (by omega), ?_⟩
      unfold stk
      rw [if_pos ⟨hi, hj⟩, Rat.intCast_sub, Rat.intCast_mul, Rat.intCast_mul, Rat.intCast_mul, ← xij, ← xvv, ← xiv, ← xvj]
      grind

/-- SMALL: what the program may hold -/
abbrev Sm (q : Rat) : Prop := Bd 4000 q
section
variable {L A : Mat} {F : Nat → Rat} {d : Nat → Int} {b : Nat} {v : Nat} {r o : List Nat}
theorem Stg.sm (h : Stg L F d b o) (hb : b ≤ 1000) (hd : ∀ i ∈ o, (d i).natAbs < 2 ^ 101) {i j : Nat} (hi : i ∈ o) (hj : j ∈ o) : Sm (L i j) := by
  obtain ⟨Q, X, Y, hQ, hQb, hX⟩ := h.ex
  obtain ⟨di, yi, fi, xi⟩ := hX i hi
  obtain ⟨xb, x⟩ := xi j hj
  rw [← Rat.intCast_mul] at x
  exact .of_mul (Int.mul_ne_zero di hQ) x (nab_up xb (by omega)) (nab_up (nab_mul (hd i hi) hQb) (by omega))
theorem Stg.smF (h : Stg L F d b o) (hb : b ≤ 1000) (hd : ∀ i ∈ o, (d i).natAbs < 2 ^ 101) {i : Nat} (hi : i ∈ o) : Sm (F i) := by
  obtain ⟨Q, X, Y, hQ, hQb, hX⟩ := h.ex
  obtain ⟨di, yi, fi, xi⟩ := hX i hi
  rw [← Rat.intCast_mul] at fi
  exact .of_mul (Int.mul_ne_zero di hQ) fi (nab_up yi (by omega)) (nab_up (nab_mul (hd i hi) hQb) (by omega))
/-- the factor -/
theorem Stg.smL (h : Stg L F d b (v :: r)) (hp : L v v ≠ 0) (hb : b ≤ 1000) (hd : ∀ i ∈ v :: r, (d i).natAbs < 2 ^ 101) {i : Nat} (hi : i ∈ r) : Sm (L i v / L v v) := by
  obtain ⟨Q, X, Y, hQ, hQb, hX⟩ := h.ex
  obtain ⟨dv, yv, fv, xv⟩ := hX v List.mem_cons_self
  obtain ⟨xvvb, xvv⟩ := xv v List.mem_cons_self
  obtain ⟨di, yi, fi, xi⟩ := hX i (List.mem_cons_of_mem _ hi)
  obtain ⟨xivb, xiv⟩ := xi v List.mem_cons_self
  have hQ' := cast_ne hQ
  have dv' := cast_ne dv
  have di' := cast_ne di
  have hxvv : X v v ≠ 0 := fun z => by
    rw [z] at xvv
    have : L v v * ((d v : Rat) * (Q : Rat)) = 0 := by rw [xvv]; rfl
    have h2 : (d v : Rat) * (Q : Rat) ≠ 0 := by grind
    grind
  refine .of_mul (x := X i v * d v) (d := d i * X v v) (Int.mul_ne_zero di hxvv) ?_ (nab_up (nab_mul xivb (hd v List.mem_cons_self)) (by omega)) (nab_up (nab_mul (hd i (List.mem_cons_of_mem _ hi)) xvvb) (by omega))
  rw [Rat.intCast_mul, Rat.intCast_mul, ← xiv, ← xvv]
  grind
theorem Stg.pvt (h : Stg L F d b (v :: r)) (hp : L v v ≠ 0) : ∃ (Q : Int) (X : Nat → Nat → Int) (Y : Nat → Int), Q ≠ 0 ∧ X v v ≠ 0 ∧ Q.natAbs < 2 ^ (b + 1) ∧ ∀ i ∈ v :: r, d i ≠ 0 ∧ (Y i).natAbs < 2 ^ b ∧ F i * ((d i : Rat) * (Q : Rat)) = (Y i : Rat) ∧
    ∀ j ∈ v :: r, (X i j).natAbs < 2 ^ b ∧ L i j * ((d i : Rat) * (Q : Rat)) = (X i j : Rat) := by
  obtain ⟨Q, X, Y, hQ, hQb, hX⟩ := h.ex
  obtain ⟨dv, yv, fv, xv⟩ := hX v List.mem_cons_self
  obtain ⟨xvvb, xvv⟩ := xv v List.mem_cons_self
  have hQ' := cast_ne hQ
  have dv' := cast_ne dv
  refine ⟨Q, X, Y, hQ, fun z => ?_, hQb, hX⟩
  rw [z] at xvv
  have : L v v * ((d v : Rat) * (Q : Rat)) = 0 := by rw [xvv]; rfl
  have h2 : (d v : Rat) * (Q : Rat) ≠ 0 := by grind
  grind
/-- factor times a number of the row -/
theorem Stg.smP (h : Stg L F d b (v :: r)) (hp : L v v ≠ 0) (hb : b ≤ 1000) (hd : ∀ i ∈ v :: r, (d i).natAbs < 2 ^ 101) {i j : Nat} (hi : i ∈ r) (hj : j ∈ v :: r) : Sm (L i v / L v v * L v j) := by
  obtain ⟨Q, X, Y, hQ, hxvv, hQb, hX⟩ := h.pvt hp
  obtain ⟨dv, yv, fv, xv⟩ := hX v List.mem_cons_self
  obtain ⟨xvvb, xvv⟩ := xv v List.mem_cons_self
  obtain ⟨xvjb, xvj⟩ := xv j hj
  obtain ⟨di, yi, fi, xi⟩ := hX i (List.mem_cons_of_mem _ hi)
  obtain ⟨xivb, xiv⟩ := xi v List.mem_cons_self
  have hQ' := cast_ne hQ
  have dv' := cast_ne dv
  have di' := cast_ne di
  refine .of_mul (x := X i v * X v j) (d := d i * (Q * X v v)) (Int.mul_ne_zero di (Int.mul_ne_zero hQ hxvv)) ?_ (nab_up (nab_mul xivb xvjb) (by omega)) (nab_up (nab_mul (hd i (List.mem_cons_of_mem _ hi)) (nab_mul hQb xvvb)) (by omega))
  rw [Rat.intCast_mul, Rat.intCast_mul, Rat.intCast_mul, ← xiv, ← xvv, ← xvj]
  grind
/-- factor times a right side -/
theorem Stg.smPF (h : Stg L F d b (v :: r)) (hp : L v v ≠ 0) (hb : b ≤ 1000) (hd : ∀ i ∈ v :: r, (d i).natAbs < 2 ^ 101) {i : Nat} (hi : i ∈ r) : Sm (L i v / L v v * F v) := by
  obtain ⟨Q, X, Y, hQ, hxvv, hQb, hX⟩ := h.pvt hp
  obtain ⟨dv, yv, fv, xv⟩ := hX v List.mem_cons_self
  obtain ⟨xvvb, xvv⟩ := xv v List.mem_cons_self
  obtain ⟨di, yi, fi, xi⟩ := hX i (List.mem_cons_of_mem _ hi)
  obtain ⟨xivb, xiv⟩ := xi v List.mem_cons_self
  have hQ' := cast_ne hQ
  have dv' := cast_ne dv
  have di' := cast_ne di
  refine .of_mul (x := X i v * Y v) (d := d i * (Q * X v v)) (Int.mul_ne_zero di (Int.mul_ne_zero hQ hxvv)) ?_ (nab_up (nab_mul xivb yv) (by omega)) (nab_up (nab_mul (hd i (List.mem_cons_of_mem _ hi)) (nab_mul hQb xvvb)) (by omega))
  rw [Rat.intCast_mul, Rat.intCast_mul, Rat.intCast_mul, ← xiv, ← xvv, ← fv]
  grind
/-- the sheet's number less that by then -/
theorem Stg.smD (h : Stg L F d b o) (hb : b ≤ 1000) (hd : ∀ i ∈ o, (d i).natAbs < 2 ^ 101) {i j : Nat} (hi : i ∈ o) (hj : j ∈ o) {x : Int} (hx : x.natAbs < 2 ^ 101) (e : A i j * (d i : Rat) = (x : Rat)) : Sm (A i j - L i j) := by
  obtain ⟨Q, X, Y, hQ, hQb, hX⟩ := h.ex
  obtain ⟨di, yi, fi, xi⟩ := hX i hi
  obtain ⟨xb, xe⟩ := xi j hj
  have hQ' := cast_ne hQ
  have di' := cast_ne di
  refine .of_mul (x := x * Q - X i j) (d := d i * Q) (Int.mul_ne_zero di hQ) ?_ (nab_up (nab_sub (a := 101 + (b + 1)) (nab_mul hx hQb) (nab_up xb (by omega))) (by omega)) (nab_up (nab_mul (hd i hi) hQb) (by omega))
  rw [Rat.intCast_sub, Rat.intCast_mul, Rat.intCast_mul, ← e, ← xe]
  grind

/-! ### the answer's size -/
/-- over one whole number -/
structure Ans (x : Nat → Rat) (o : List Nat) (k : Nat) : Prop where
  ex : ∃ (R : Int) (Z : Nat → Int), R ≠ 0 ∧ R.natAbs < 2 ^ k ∧ ∀ j ∈ o, (Z j).natAbs < 2 ^ k ∧ x j * (R : Rat) = (Z j : Rat)
theorem Ans.sm {x : Nat → Rat} {k : Nat} (h : Ans x o k) (hk : k ≤ 4000) {j : Nat} (hj : j ∈ o) : Sm (x j) := by
  obtain ⟨R, Z, h1, h2, h3⟩ := h.ex
  obtain ⟨h4, h5⟩ := h3 j hj
  exact .of_mul h1 h5 (nab_up h4 hk) (nab_up h2 hk)
theorem Ans.sub {x : Nat → Rat} {k : Nat} {l : List Nat} (h : Ans x o k) (hl : ∀ j ∈ l, j ∈ o) : Ans x l k := by
  obtain ⟨R, Z, h1, h2, h3⟩ := h.ex
  exact ⟨R, Z, h1, h2, fun j hj => h3 j (hl j hj)⟩
theorem Ans.congr {x y : Nat → Rat} {k : Nat} (h : Ans x o k) (e : ∀ j ∈ o, x j = y j) : Ans y o k := by
  obtain ⟨R, Z, h1, h2, h3⟩ := h.ex
  exact ⟨R, Z, h1, h2, fun j hj => by rw [← e j hj]; exact h3 j hj⟩
/-- a row's right side less some of its numbers times the answer -/
theorem part_sm {x : Nat → Rat} {k : Nat} (h : Stg L F d b (v :: r)) (hx : Ans x r k) (hb : b ≤ 1000) (hk : k ≤ 2000) (hd : ∀ i ∈ v :: r, (d i).natAbs < 2 ^ 101) {l : List Nat} (hl : ∀ j ∈ l, j ∈ r) (h6 : l.length ≤ 6) :
    Sm (F v - sm l (fun j => L v j * x j)) := by
  obtain ⟨Q, X, Y, hQ, hQb, hX⟩ := h.ex
  obtain ⟨R, Z, hR, hRb, hZ⟩ := hx.ex
  obtain ⟨dv, yv, fv, xv⟩ := hX v List.mem_cons_self
  have hQ' := cast_ne hQ
  have dv' := cast_ne dv
  have hR' := cast_ne hR
  have es := ism_cast l (fun j => X v j * Z j) (fun j => L v j * x j) ((d v : Rat) * (Q : Rat) * (R : Rat)) fun j hj => by
    rw [Rat.intCast_mul, ← (hZ j (hl j hj)).2, ← (xv j (List.mem_cons_of_mem _ (hl j hj))).2]; grind
  have bs := ism_lt (k := b + k) l (fun j => X v j * Z j) fun j hj => nab_mul (xv j (List.mem_cons_of_mem _ (hl j hj))).1 (hZ j (hl j hj)).1
  have b1 := nab_mul yv hRb
  refine .of_mul (x := Y v * R - ism l (fun j => X v j * Z j)) (d := d v * Q * R) (Int.mul_ne_zero (Int.mul_ne_zero dv hQ) hR) ?_ (nab_up (a := b + k + 3) ?_ (by omega)) (nab_up (nab_mul (nab_mul (hd v List.mem_cons_self) hQb) hRb) (by omega))
  · rw [Rat.intCast_sub, Rat.intCast_mul, Rat.intCast_mul, Rat.intCast_mul, ← es, ← fv]; grind
  · have : l.length * 2 ^ (b + k) ≤ 6 * 2 ^ (b + k) := Nat.mul_le_mul_right _ h6
    rw [show b + k + 3 = (b + k) + 1 + 1 + 1 by omega, Nat.pow_succ, Nat.pow_succ, Nat.pow_succ]
    omega
theorem prod_sm {x : Nat → Rat} {k : Nat} (h : Stg L F d b (v :: r)) (hx : Ans x r k) (hb : b ≤ 1000) (hk : k ≤ 2000) (hd : ∀ i ∈ v :: r, (d i).natAbs < 2 ^ 101) {j : Nat} (hj : j ∈ r) : Sm (L v j * x j) := by
  obtain ⟨Q, X, Y, hQ, hQb, hX⟩ := h.ex
  obtain ⟨R, Z, hR, hRb, hZ⟩ := hx.ex
  obtain ⟨dv, yv, fv, xv⟩ := hX v List.mem_cons_self
  obtain ⟨xb, xe⟩ := xv j (List.mem_cons_of_mem _ hj)
  obtain ⟨zb, ze⟩ := hZ j hj
  refine .of_mul (x := X v j * Z j) (d := d v * Q * R) (Int.mul_ne_zero (Int.mul_ne_zero dv hQ) hR) ?_ (nab_up (nab_mul xb zb) (by omega)) (nab_up (nab_mul (nab_mul (hd v List.mem_cons_self) hQb) hRb) (by omega))
  rw [Rat.intCast_mul, Rat.intCast_mul, Rat.intCast_mul, ← xe, ← ze]; grind
theorem sol_ans : ∀ {o : List Nat} {L : Mat} {F : Nat → Rat} {b : Nat}, o.Nodup → Piv L o → Stg L F d b o → o.length ≤ 6 → Ans (sol L F o) o ((2 ^ o.length - 1) * (b + 1) + 2 * o.length + 1)
  | [], L, F, b, _, _, _, _ => ⟨1, fun _ => 0, by decide, by simp, fun j hj => by cases hj⟩
  | v :: r, L, F, b, hn, hp, h, h6 => by
    have hv : v ∉ r := (List.nodup_cons.mp hn).1
    have ih := sol_ans (List.nodup_cons.mp hn).2 hp.2 (h.step hp.1) (by simp at h6; omega)
    obtain ⟨R, Z, hR, hRb, hZ⟩ := ih.ex
    obtain ⟨Q, X, Y, hQ, hxvv, hQb, hX⟩ := h.pvt hp.1
    obtain ⟨dv, yv, fv, xv⟩ := hX v List.mem_cons_self
    obtain ⟨xvvb, xvv⟩ := xv v List.mem_cons_self
    have hQ' := cast_ne hQ
    have dv' := cast_ne dv
    have hR' := cast_ne hR
    have hxvv' := cast_ne hxvv
    generalize hk : (2 ^ r.length - 1) * (2 * b + 1 + 1) + 2 * r.length + 1 = k at *
    have hk' : (2 ^ (v :: r).length - 1) * (b + 1) + 2 * (v :: r).length + 1 = k + b + 3 := by
      rw [← hk, List.length_cons, Nat.pow_succ]
      have h1 : 1 ≤ 2 ^ r.length := Nat.one_le_two_pow
      obtain ⟨m, hm⟩ : ∃ m, 2 ^ r.length = m + 1 := ⟨2 ^ r.length - 1, by omega⟩
      rw [hm, show (m + 1) * 2 - 1 = 2 * m + 1 by omega, show m + 1 - 1 = m by omega]
      grind
    rw [hk']
    have es := ism_cast r (fun j => X v j * Z j) (fun j => L v j * sol (stk L v r) (fwd L F v r) r j) ((d v : Rat) * (Q : Rat) * (R : Rat)) fun j hj => by
      rw [Rat.intCast_mul, ← (hZ j hj).2, ← (xv j (List.mem_cons_of_mem _ hj)).2]; grind
    have bs := ism_lt (k := b + k) r (fun j => X v j * Z j) fun j hj => nab_mul (xv j (List.mem_cons_of_mem _ hj)).1 (hZ j hj).1
    have b1 := nab_mul yv hRb
    refine ⟨R * X v v, fun j => if j = v then Y v * R - ism r (fun j => X v j * Z j) else Z j * X v v, Int.mul_ne_zero hR hxvv, nab_up (nab_mul hRb xvvb) (by omega), fun j hj => ?_⟩
    by_cases hjv : j = v
    · subst hjv
      simp only [if_true, sol]
      refine ⟨?_, ?_⟩
      · have : r.length * 2 ^ (b + k) ≤ 5 * 2 ^ (b + k) := Nat.mul_le_mul_right _ (by simp at h6; omega)
        rw [show k + b + 3 = (b + k) + 1 + 1 + 1 by omega, Nat.pow_succ, Nat.pow_succ, Nat.pow_succ]
        omega
      · rw [Rat.intCast_sub, Rat.intCast_mul, Rat.intCast_mul, ← es, ← fv, ← xvv]
        have := hp.1
        grind
    · have hjr : j ∈ r := (List.mem_cons.mp hj).resolve_left hjv
      simp only [hjv, if_false, sol]
      obtain ⟨z1, z2⟩ := hZ j hjr
      refine ⟨nab_up (nab_mul z1 xvvb) (by omega), ?_⟩
      rw [Rat.intCast_mul, Rat.intCast_mul, ← z2]; grind
/-- some of a row's numbers times the answer, together -/
theorem row_sm {x : Nat → Rat} {k c : Nat} {i : Nat} (hx : Ans x o k) (hk : k ≤ 2000) (di : d i ≠ 0) (hd : (d i).natAbs < 2 ^ 101) {X : Nat → Int} {l : List Nat} (hl : ∀ j ∈ l, j ∈ o) (h6 : l.length ≤ 6)
    (hX : ∀ j ∈ l, (X j).natAbs < 2 ^ 101 ∧ A i j * (d i : Rat) = (X j : Rat)) : Sm (sm l (fun j => A i j * x j)) := by
  obtain ⟨R, Z, hR, hRb, hZ⟩ := hx.ex
  have es := ism_cast l (fun j => X j * Z j) (fun j => A i j * x j) ((d i : Rat) * (R : Rat)) fun j hj => by
    rw [Rat.intCast_mul, ← (hZ j (hl j hj)).2, ← (hX j hj).2]; grind
  have bs := ism_lt (k := 101 + k) l (fun j => X j * Z j) fun j hj => nab_mul (hX j hj).1 (hZ j (hl j hj)).1
  refine .of_mul (x := ism l (fun j => X j * Z j)) (d := d i * R) (Int.mul_ne_zero di hR) ?_ (nab_up (a := 101 + k + 3) ?_ (by omega)) (nab_up (nab_mul hd hRb) (by omega))
  · rw [Rat.intCast_mul, ← es]
  · have : l.length * 2 ^ (101 + k) ≤ 6 * 2 ^ (101 + k) := Nat.mul_le_mul_right _ h6
    have : 0 < 2 ^ (101 + k) := Nat.two_pow_pos _
    rw [show 101 + k + 3 = (101 + k) + 1 + 1 + 1 by omega, Nat.pow_succ, Nat.pow_succ, Nat.pow_succ]
    omega
end
end FF
end

/-! ## FFLaw -/
section
set_option linter.all false
namespace FF

/-! ### the work -/
abbrev Part := Nat × Rat
abbrev W1 := Nat × Rat × List Part × List Part
def parts (l : List Nat) (f : Nat → Rat) : List Part := (l.filter fun j => decide (f j ≠ 0)).map fun j => (j, f j)
def srt (n : Nat) (r : List Nat) : List Nat := (List.range n).filter fun j => decide (j ∈ r)
def w1 (n : Nat) (L : Mat) (v : Nat) (r : List Nat) : W1 := (v, L v v, parts (srt n r) (L v), parts (srt n r) (fun i => L i v / L v v))
def work (n : Nat) : Mat → List Nat → List W1
  | _, [] => []
  | L, v :: r => w1 n L v r :: work n (stk L v r) r
theorem work_length (n : Nat) : ∀ (o : List Nat) (L : Mat), (work n L o).length = o.length
  | [], _ => rfl
  | v :: r, L => by simp [work, work_length n r]
theorem work_at (n : Nat) : ∀ (p : List Nat) (L : Mat) (v : Nat) (r : List Nat), (work n L (p ++ v :: r))[p.length]? = some (w1 n (runM L p (v :: r)) v r)
  | [], L, v, r => rfl
  | a :: p, L, v, r => by
    show (work n (stk L a (p ++ v :: r)) (p ++ v :: r))[p.length]? = some (w1 n (runM (stk L a (p ++ v :: r)) p (v :: r)) v r)
    exact work_at n p _ v r
theorem work_map (n : Nat) (g : Nat → W1) : ∀ (o : List Nat) (L : Mat), (∀ p v r, o = p ++ v :: r → w1 n (runM L p (v :: r)) v r = g v) → work n L o = o.map g
  | [], _, _ => rfl
  | v :: r, L, h => by
    show w1 n L v r :: work n (stk L v r) r = g v :: r.map g
    rw [show w1 n L v r = g v from h [] v r rfl, work_map n g r (stk L v r) fun p u t e => ?_]
    have := h (v :: p) u t (by rw [e]; rfl)
    have e2 : runM L (v :: p) (u :: t) = runM (stk L v r) p (u :: t) := by rw [e]; rfl
    rw [← e2]; exact this
theorem parts_congr {l m : List Nat} {f g : Nat → Rat} (h : l.filter (fun j => decide (f j ≠ 0)) = m.filter (fun j => decide (g j ≠ 0))) (e : ∀ j ∈ m, f j = g j) : parts l f = parts m g := by
  unfold parts
  rw [h]
  refine List.map_congr_left fun j hj => ?_
  rw [e j (List.mem_filter.mp hj).1]
/-- the tuple of a place, by factors and rows -/
def tupOf (n : Nat) (A : Mat) (o : List Nat) (v : Nat) : W1 :=
  (v, uf A o v v, parts ((List.range n).filter fun j => decide (j ≠ v)) (uf A o v), parts ((List.range n).filter fun j => decide (j ≠ v)) (lf A o v))
theorem range_filter_congr {n : Nat} {p q : Nat → Bool} (h : ∀ j < n, p j = q j) : (List.range n).filter p = (List.range n).filter q :=
  List.filter_congr fun j hj => h j (List.mem_range.mp hj)
theorem filter_filter' {p q : Nat → Bool} (l : List Nat) : (l.filter p).filter q = l.filter fun j => p j && q j := by
  rw [List.filter_filter]
  exact List.filter_congr fun j _ => by rw [Bool.and_comm]
theorem parts_range {n : Nat} {p q : Nat → Bool} {f g : Nat → Rat} (h : ∀ j < n, (p j = true ∧ f j ≠ 0 ↔ q j = true ∧ g j ≠ 0) ∧ (q j = true → g j ≠ 0 → f j = g j)) : parts ((List.range n).filter p) f = parts ((List.range n).filter q) g := by
  unfold parts
  have e : ((List.range n).filter p).filter (fun j => decide (f j ≠ 0)) = ((List.range n).filter q).filter (fun j => decide (g j ≠ 0)) := by
    rw [filter_filter', filter_filter']
    refine range_filter_congr fun j hj => ?_
    have := (h j hj).1
    rw [Bool.eq_iff_iff, Bool.and_eq_true, Bool.and_eq_true, decide_eq_true_eq, decide_eq_true_eq]
    exact this
  rw [e]
  refine List.map_congr_left fun j hj => ?_
  obtain ⟨h1, h2⟩ := List.mem_filter.mp hj
  obtain ⟨h3, h4⟩ := List.mem_filter.mp h1
  rw [(h j (List.mem_range.mp h3)).2 h4 (by simpa using h2)]
section
variable {T : Nat → Nat → Prop} {A : Mat} {o o' : List Nat} {par : Nat → Option Nat} {n : Nat}
theorem work_tup (hn : o.Nodup) : work n A o = o.map (tupOf n A o) := by
  refine work_map n _ o A fun p v r e => ?_
  have hn2 := hn
  rw [e] at hn2
  have hvp : v ∉ p := fun hm => (List.nodup_append.mp hn2).2.2 v hm v List.mem_cons_self rfl
  have hvr : v ∉ r := (List.nodup_cons.mp (List.nodup_append.mp hn2).2.1).1
  have u : ∀ j, uf A o v j = if j = v ∨ j ∈ r then runM A p (v :: r) v j else 0 := fun j => by rw [e]; exact uf_at p A v r j hvp
  have l : ∀ i, lf A o v i = if i ∈ r then runM A p (v :: r) i v / runM A p (v :: r) v v else 0 := fun i => by rw [e]; exact lf_at p A v r i hvp
  unfold w1 tupOf srt
  refine Prod.ext rfl (Prod.ext ?_ (Prod.ext ?_ ?_))
  · show runM A p (v :: r) v v = uf A o v v
    rw [u, if_pos (.inl rfl)]
  · refine parts_range fun j _ => ⟨?_, fun h1 h2 => ?_⟩
    · rw [u j]
      simp only [decide_eq_true_eq]
      by_cases hj : j ∈ r
      · have : j ≠ v := fun q => hvr (q ▸ hj)
        simp [hj, this]
      · by_cases hv : j = v <;> simp [hj, hv, hvr]
    · rw [u j] at h2 ⊢
      have hv : j ≠ v := by simpa using h1
      by_cases hj : j ∈ r
      · simp [hj]
      · simp [hj, hv] at h2
  · refine parts_range fun j _ => ⟨?_, fun h1 h2 => ?_⟩
    · rw [l j]
      simp only [decide_eq_true_eq]
      by_cases hj : j ∈ r
      · have : j ≠ v := fun q => hvr (q ▸ hj)
        simp [hj, this]
      · simp [hj]
    · rw [l j] at h2 ⊢
      by_cases hj : j ∈ r
      · simp [hj]
      · simp [hj] at h2
/-- by an order that keeps the tree: pivots, and the very same tuples -/
theorem work_kept (hW : Web T A) (hn : o.Nodup) (hq : o'.Perm o) (hp : Piv A o) (tr : Tree T o par) (hk : ∀ v p, v ∈ o → par v = some p → o'.idxOf v < o'.idxOf p) :
    Piv A o' ∧ work n A o' = o'.map (tupOf n A o) := by
  have hn' := hq.nodup_iff.mpr hn
  have key := keeps_stage hW hn hq hp tr hk
  have bef : ∀ v w, After T o v w → o'.idxOf v < o'.idxOf w := fun v w h => kept_after hW.sy hn tr hk _ v w (Nat.le_refl _) h
  refine ⟨piv_of o' A fun p v r e => ?_, work_map n _ o' A fun p v r e => ?_⟩
  · obtain ⟨g1, g2, g3⟩ := (key p.length p (v :: r) rfl e).2 v r rfl
    rw [g1 v List.mem_cons_self]; exact g3
  · obtain ⟨g1, g2, g3⟩ := (key p.length p (v :: r) rfl e).2 v r rfl
    have hn2 := hn'
    rw [e] at hn2
    have hvr : v ∉ r := (List.nodup_cons.mp (List.nodup_append.mp hn2).2.1).1
    have hvo' : v ∈ o' := by rw [e]; simp
    have hvo : v ∈ o := hq.mem_iff.mp hvo'
    have inR : ∀ j, After T o v j → j ∈ r := fun j ha => by
      have hj : j ∈ o := by obtain ⟨_, _, e, hw, _⟩ := ha; rw [e]; exact List.mem_append_right _ (List.mem_cons_of_mem _ hw)
      exact idx_gt_split hn' e (hq.mem_iff.mpr hj) (bef _ _ ha)
    have gv := g1 v List.mem_cons_self
    unfold w1 tupOf srt
    refine Prod.ext rfl (Prod.ext gv (Prod.ext ?_ ?_))
    · refine parts_range fun j _ => ⟨?_, fun h1 h2 => ?_⟩
      · simp only [decide_eq_true_eq]
        constructor
        · rintro ⟨hj, hz⟩
          rw [g1 j (List.mem_cons_of_mem _ hj)] at hz
          exact ⟨fun q => hvr (q ▸ hj), hz⟩
        · rintro ⟨hj, hz⟩
          have := inR j (uf_after hW hn hvo hj hz)
          exact ⟨this, by rw [g1 j (List.mem_cons_of_mem _ this)]; exact hz⟩
      · have := inR j (uf_after hW hn hvo (by simpa using h1) h2)
        exact g1 j (List.mem_cons_of_mem _ this)
    · have q : ∀ i ∈ r, runM A p (v :: r) i v / runM A p (v :: r) v v = lf A o v i := fun i hi => by rw [g2 i hi, gv]; grind
      refine parts_range fun j _ => ⟨?_, fun h1 h2 => ?_⟩
      · simp only [decide_eq_true_eq]
        constructor
        · rintro ⟨hj, hz⟩
          rw [q j hj] at hz
          exact ⟨fun e => hvr (e ▸ hj), hz⟩
        · rintro ⟨hj, hz⟩
          have := inR j (lf_after hW hn hvo hz)
          exact ⟨this, by rw [q j this]; exact hz⟩
      · exact q j (inR j (lf_after hW hn hvo h2))
end

/-! ### the law's search for ways -/
def near (ties : List (Nat × Nat)) (v : Nat) : List Nat := ((ties.filter fun t => decide (t.1 = v)).map (·.2)) ++ ((ties.filter fun t => decide (t.2 = v)).map (·.1))
def Tie (ties : List (Nat × Nat)) (a b : Nat) : Prop := (a, b) ∈ ties ∨ (b, a) ∈ ties
theorem mem_near {ties : List (Nat × Nat)} {v w : Nat} : w ∈ near ties v ↔ Tie ties v w := by
  unfold near Tie
  rw [List.mem_append, List.mem_map, List.mem_map]
  constructor
  · rintro (⟨⟨a, b⟩, h, rfl⟩ | ⟨⟨a, b⟩, h, rfl⟩)
    · obtain ⟨h1, h2⟩ := List.mem_filter.mp h
      have : a = v := by simpa using h2
      subst this; exact .inl h1
    · obtain ⟨h1, h2⟩ := List.mem_filter.mp h
      have : b = v := by simpa using h2
      subst this; exact .inr h1
  · rintro (h | h)
    · exact .inl ⟨(v, w), List.mem_filter.mpr ⟨h, by simp⟩, rfl⟩
    · exact .inr ⟨(w, v), List.mem_filter.mpr ⟨h, by simp⟩, rfl⟩
theorem Tie.symm {ties : List (Nat × Nat)} {a b : Nat} (h : Tie ties a b) : Tie ties b a := h.elim .inr .inl
/-- good ties -/
structure Ties (n : Nat) (ties : List (Nat × Nat)) : Prop where
  nd : ties.Nodup
  lt : ∀ t ∈ ties, t.1 < t.2 ∧ t.2 < n
theorem near_nodup {n : Nat} {ties : List (Nat × Nat)} (h : Ties n ties) (v : Nat) : (near ties v).Nodup := by
  unfold near
  refine List.nodup_append.mpr ⟨?_, ?_, ?_⟩
  · refine List.Pairwise.map _ ?_ (List.Pairwise.and_mem.mp (h.nd.filter _))
    rintro ⟨a, b⟩ ⟨c, d⟩ ⟨h1, h2, h3⟩ e
    have e1 : a = v := by simpa using (List.mem_filter.mp h1).2
    have e2 : c = v := by simpa using (List.mem_filter.mp h2).2
    have e : b = d := e
    exact h3 (by rw [e1, e2, e])
  · refine List.Pairwise.map _ ?_ (List.Pairwise.and_mem.mp (h.nd.filter _))
    rintro ⟨a, b⟩ ⟨c, d⟩ ⟨h1, h2, h3⟩ e
    have e1 : b = v := by simpa using (List.mem_filter.mp h1).2
    have e2 : d = v := by simpa using (List.mem_filter.mp h2).2
    have e : a = c := e
    exact h3 (by rw [e1, e2, e])
  · rintro x hx y hy rfl
    obtain ⟨⟨a, b⟩, h1, rfl⟩ := List.mem_map.mp hx
    obtain ⟨⟨c, d⟩, h2, e⟩ := List.mem_map.mp hy
    obtain ⟨m1, q1⟩ := List.mem_filter.mp h1
    obtain ⟨m2, q2⟩ := List.mem_filter.mp h2
    have l1 := h.lt _ m1
    have l2 := h.lt _ m2
    simp at q1 q2 e l1 l2
    omega
/-- what holds between two turns of the search from start, S the places struck ahead -/
structure Bfs (n : Nat) (ties : List (Nat × Nat)) (S : Nat → Prop) (start : Nat) (seen : List Nat) (k : Nat) : Prop where
  head : seen[0]? = some start
  nd : seen.Nodup
  lt : ∀ w ∈ seen, w < n
  way : ∀ w ∈ seen, w = start ∨ Conn (Tie ties) S start w
  all : ∀ m u, m < k → seen[m]? = some u → (m = 0 ∨ S u) → ∀ w, Tie ties u w → w ∈ seen
  le : k ≤ seen.length
section
variable {n : Nat} {ties : List (Nat × Nat)} {S : Nat → Prop} {start k : Nat} {seen : List Nat}
theorem Bfs.init (h : start < n) : Bfs n ties S start [start] 0 :=
  ⟨rfl, by simp, fun w hw => by simp at hw; omega, fun w hw => .inl (by simpa using hw), fun m u hm => absurd hm (Nat.not_lt_zero _), by simp⟩
theorem Bfs.skip (b : Bfs n ties S start seen k) (hk : k < seen.length) (h : k ≠ 0) {u : Nat} (hu : seen[k]? = some u) (hS : ¬ S u) : Bfs n ties S start seen (k + 1) :=
  ⟨b.head, b.nd, b.lt, b.way, fun m u' hm e hc => by
    by_cases q : m = k
    · subst q
      rw [hu] at e; cases e
      rcases hc with hc | hc
      · exact absurd hc h
      · exact absurd hc hS
    · exact b.all m u' (by omega) e hc, hk⟩
theorem Bfs.take (ht : Ties n ties) (b : Bfs n ties S start seen k) (hk : k < seen.length) {u : Nat} (hu : seen[k]? = some u) (h : k = 0 ∨ S u) :
    Bfs n ties S start (seen ++ (near ties u).filter fun w => decide (w ∉ seen)) (k + 1) := by
  have um : u ∈ seen := List.mem_of_getElem? hu
  refine ⟨?_, ?_, fun w hw => ?_, fun w hw => ?_, fun m u' hm e hc w hw => ?_, ?_⟩
  · rw [List.getElem?_append_left (by omega)]; exact b.head
  · refine List.nodup_append.mpr ⟨b.nd, (near_nodup ht u).filter _, ?_⟩
    rintro x hx y hy rfl
    have := (List.mem_filter.mp hy).2
    simp at this
    exact this hx
  · rcases List.mem_append.mp hw with hw | hw
    · exact b.lt w hw
    · have := mem_near.mp (List.mem_filter.mp hw).1
      rcases this with h | h
      · exact (ht.lt _ h).2
      · have := ht.lt _ h; simp at this; omega
  · rcases List.mem_append.mp hw with hw | hw
    · exact b.way w hw
    · have t := mem_near.mp (List.mem_filter.mp hw).1
      right
      rcases h with rfl | h
      · rw [b.head] at hu; cases hu; exact .tie t
      · rcases b.way u um with rfl | c
        · exact .tie t
        · exact .via c h (.tie t)
  · have old : m < k → w ∈ seen := fun hlt => by
      rw [List.getElem?_append_left (by omega)] at e
      exact b.all m u' hlt e hc w hw
    by_cases q : m = k
    · subst q
      rw [List.getElem?_append_left hk, hu] at e; cases e
      by_cases hws : w ∈ seen
      · exact List.mem_append_left _ hws
      · exact List.mem_append_right _ (List.mem_filter.mpr ⟨mem_near.mpr hw, by simpa using hws⟩)
    · exact List.mem_append_left _ (old (by omega))
  · rw [List.length_append]; omega
theorem nodup_le : ∀ {l : List Nat} {n : Nat}, l.Nodup → (∀ w ∈ l, w < n) → l.length ≤ n := fun {l n} h hl => by
  have hp : (l ++ (List.range n).filter fun w => decide (w ∉ l)).Perm (List.range n) := by
    refine (List.perm_ext_iff_of_nodup (List.nodup_append.mpr ⟨h, List.nodup_range.filter _, ?_⟩) List.nodup_range).mpr fun a => ?_
    · rintro x hx y hy rfl
      have := (List.mem_filter.mp hy).2
      simp at this
      exact this hx
    · rw [List.mem_append, List.mem_filter, List.mem_range]
      by_cases ha : a ∈ l
      · simp [ha, hl a ha]
      · simp [ha]
  have := hp.length_eq
  rw [List.length_append, List.length_range] at this
  omega
theorem Bfs.len (b : Bfs n ties S start seen k) : seen.length ≤ n := nodup_le b.nd b.lt
theorem Bfs.done (b : Bfs n ties S start seen k) (hk : seen.length ≤ k) {w : Nat} (hw : w ≠ start) : w ∈ seen ↔ Conn (Tie ties) S start w := by
  constructor
  · intro h; exact (b.way w h).resolve_left hw
  · have key : ∀ a b', Conn (Tie ties) S a b' → a ∈ seen → (a = start ∨ S a) → b' ∈ seen := by
      intro a b' c
      induction c with
      | tie t =>
        intro ha hc
        obtain ⟨m, hm, e⟩ := List.getElem_of_mem ha
        rcases hc with rfl | hc
        · exact b.all 0 _ (by omega) b.head (.inl rfl) _ t
        · exact b.all m _ (by omega) (List.getElem?_eq_some_iff.mpr ⟨hm, e⟩) (.inr hc) _ t
      | via _ hS _ h1 h2 => intro ha hc; exact h2 (h1 ha hc) (.inr hS)
    intro c
    exact key start w c (List.mem_of_getElem? b.head) (.inl rfl)
end

/-! ### parents -/
/-- the first struck behind v to which a way leads -/
def IsPar (ties : List (Nat × Nat)) (o : List Nat) (par : Nat → Option Nat) : Prop :=
  ∀ p v r, o = p ++ v :: r → ∃ l : List Nat, (∃ q : Nat → Bool, l = r.filter q ∧ ∀ w ∈ r, (q w = true ↔ Conn (Tie ties) (· ∈ p) v w)) ∧ par v = l.head?
theorem IsPar.tree {ties : List (Nat × Nat)} {o : List Nat} {par : Nat → Option Nat} (hn : o.Nodup) (h : IsPar ties o par) (hz : ∀ v, v ∉ o → par v = none) : Tree (Tie ties) o par where
  first := fun v p e => by
    by_cases hv : v ∈ o
    · obtain ⟨m, r, eo⟩ := List.append_of_mem hv
      obtain ⟨l, ⟨q, el, hq⟩, ep⟩ := h m v r eo
      rw [e] at ep
      have hp : p ∈ l := List.mem_of_mem_head? ep.symm
      rw [el] at hp
      obtain ⟨h1, h2⟩ := List.mem_filter.mp hp
      exact ⟨m, r, eo, h1, (hq p h1).mp h2⟩
    · rw [hz v hv] at e; cases e
  most := fun v w ha => by
    obtain ⟨m, r, eo, hw, c⟩ := ha
    obtain ⟨l, ⟨q, el, hq⟩, ep⟩ := h m v r eo
    have hwl : w ∈ l := by rw [el]; exact List.mem_filter.mpr ⟨hw, (hq w hw).mpr c⟩
    cases l with
    | nil => cases hwl
    | cons p t =>
      refine ⟨p, ep, ?_⟩
      rcases List.mem_cons.mp hwl with h1 | h1
      · exact .inl h1.symm
      · right
        have hn2 := hn
        rw [eo] at hn2
        have hr : r.Nodup := (List.nodup_cons.mp (List.nodup_append.mp hn2).2.1).2
        have key : ∀ (r : List Nat) (p : Nat) (t : List Nat), r.Nodup → p :: t = r.filter q → ∀ w ∈ t, r.idxOf p < r.idxOf w := by
          intro r
          induction r with
          | nil => intro p t _ e; simp at e
          | cons a r ih =>
            intro p t hr e w hw
            obtain ⟨har, hr'⟩ := List.nodup_cons.mp hr
            rw [List.filter_cons] at e
            split at e
            · obtain ⟨rfl, rfl⟩ := List.cons.inj e
              have hwr := (List.mem_filter.mp hw).1
              have : p ≠ w := fun z => har (z ▸ hwr)
              rw [List.idxOf_cons_self, List.idxOf_cons, show (p == w) = false by simpa using this]
              simp
            · have hp : p ∈ r := (List.mem_filter.mp (by rw [← e]; exact List.mem_cons_self)).1
              have hw2 : w ∈ r := (List.mem_filter.mp (by rw [← e]; exact List.mem_cons_of_mem _ hw)).1
              have n1 : a ≠ p := fun z => har (z ▸ hp)
              have n2 : a ≠ w := fun z => har (z ▸ hw2)
              rw [List.idxOf_cons, List.idxOf_cons, show (a == p) = false by simpa using n1, show (a == w) = false by simpa using n2]
              have := ih p t hr' e w hw
              simp only [cond_false]
              omega
        have hpr : p ∈ r := (List.mem_filter.mp (by rw [← el]; exact List.mem_cons_self)).1
        have lt := key r p t hr el w h1
        have nm : ∀ x ∈ r, x ∉ m ∧ v ≠ x := fun x hx => ⟨fun hm => (List.nodup_append.mp hn2).2.2 x hm x (List.mem_cons_of_mem _ hx) rfl, fun z => (List.nodup_cons.mp (List.nodup_append.mp hn2).2.1).1 (z ▸ hx)⟩
        have ix : ∀ x ∈ r, o.idxOf x = m.length + (r.idxOf x + 1) := fun x hx => by
          rw [eo, List.idxOf_append, if_neg (nm x hx).1, List.idxOf_cons, show (v == x) = false by simpa using (nm x hx).2]
          simp only [cond_false]; omega
        rw [ix p hpr, ix w hw]; omega

/-! ### an order that keeps the tree -/
structure Keep (n : Nat) (par : Nat → Option Nat) (found : List Nat) : Prop where
  nd : found.Nodup
  lt : ∀ v ∈ found, v < n
  up : ∀ v p, v < n → par v = some p → p ∈ found → v ∈ found ∧ found.idxOf v < found.idxOf p
section
variable {n : Nat} {par : Nat → Option Nat} {found : List Nat} {ties : List (Nat × Nat)} {o : List Nat}
theorem Keep.nil : Keep n par [] := ⟨List.nodup_nil, fun v hv => (by cases hv), fun v p _ _ hp => (by cases hp)⟩
theorem Keep.add (k : Keep n par found) {x : Nat} (hx : x < n) (hf : x ∉ found) (hr : ∀ w, w < n → w ∉ found → par w ≠ some x) : Keep n par (found ++ [x]) := by
  refine ⟨List.nodup_append.mpr ⟨k.nd, by simp, fun a ha b hb e => hf (by simp at hb; rw [← hb, ← e]; exact ha)⟩, fun v hv => ?_, fun v p hv e hp => ?_⟩
  · rcases List.mem_append.mp hv with h | h
    · exact k.lt v h
    · simp at h; omega
  · by_cases hpf : p ∈ found
    · obtain ⟨h1, h2⟩ := k.up v p hv e hpf
      exact ⟨List.mem_append_left _ h1, by rw [List.idxOf_append, if_pos h1, List.idxOf_append, if_pos hpf]; exact h2⟩
    · have hpx : p = x := by
        rcases List.mem_append.mp hp with h | h
        · exact absurd h hpf
        · simpa using h
      subst hpx
      have hvf : v ∈ found := Classical.byContradiction fun q => hr v hv q e
      refine ⟨List.mem_append_left _ hvf, ?_⟩
      rw [List.idxOf_append, if_pos hvf, List.idxOf_append, if_neg hf]
      have := List.idxOf_lt_length_of_mem hvf
      omega
/-- some place left has no child left -/
theorem Keep.ready (tr : Tree (Tie ties) o par) (hn : o.Nodup) (hq : o.Perm (List.range n)) (hl : ∃ v, v < n ∧ v ∉ found) : ∃ x, x < n ∧ x ∉ found ∧ ∀ w, w < n → w ∉ found → par w ≠ some x := by
  have key : ∀ (m : Nat) (v : Nat), v < n → v ∉ found → o.idxOf v ≤ m → ∃ x, x < n ∧ x ∉ found ∧ ∀ w, w < n → w ∉ found → par w ≠ some x := by
    intro m
    induction m with
    | zero =>
      intro v hv hf hm
      refine ⟨v, hv, hf, fun w hw hwf e => ?_⟩
      have := (tr.first w v e).idx hn
      omega
    | succ m ih =>
      intro v hv hf hm
      by_cases h : ∀ w, w < n → w ∉ found → par w ≠ some v
      · exact ⟨v, hv, hf, h⟩
      · have ⟨w, h1⟩ := Classical.not_forall.mp h
        have ⟨h2, h3⟩ := Classical.not_forall.mp h1
        have ⟨h4, h5⟩ := Classical.not_forall.mp h3
        have e := Classical.not_not.mp h5
        have := (tr.first w v e).idx hn
        exact ih w h2 h4 (by omega)
  obtain ⟨v, hv, hf⟩ := hl
  exact key _ v hv hf (Nat.le_refl _)
theorem Keep.full (k : Keep n par found) (hl : found.length = n) : found.Perm (List.range n) := by
  refine (List.perm_ext_iff_of_nodup k.nd List.nodup_range).mpr fun a => ⟨fun h => List.mem_range.mpr (k.lt a h), fun h => ?_⟩
  apply Classical.byContradiction
  intro hna
  have := nodup_le (l := a :: found) (n := n) (List.nodup_cons.mpr ⟨hna, k.nd⟩) fun w hw => by
    rcases List.mem_cons.mp hw with rfl | hw
    · exact List.mem_range.mp h
    · exact k.lt w hw
  simp at this
  omega
theorem Keep.left (k : Keep n par found) (hl : found.length < n) : ∃ v, v < n ∧ v ∉ found := by
  apply Classical.byContradiction
  intro h
  have h' : ∀ v, v < n → v ∈ found := fun v hv => Classical.byContradiction fun q => h ⟨v, hv, q⟩
  have : (List.range n).length ≤ found.length := by
    have hp : ((List.range n)).Perm (found.filter fun v => decide (v < n)) := (List.perm_ext_iff_of_nodup List.nodup_range (k.nd.filter _)).mpr fun a => by
      rw [List.mem_range, List.mem_filter]
      exact ⟨fun q => ⟨h' a q, by simpa using q⟩, fun q => by simpa using q.2⟩
    rw [hp.length_eq]
    exact List.length_filter_le _ _
  rw [List.length_range] at this
  omega
end
end FF
end

/-! ## FFPut -/
section
set_option linter.all false
namespace FF
/-! ### lists of parts as functions -/
def rowF (r : List Part) (j : Nat) : Rat := ((r.find? fun p => decide (p.1 = j)).map (·.2)).getD 0
def plc (r : List Part) : List Nat := r.map (·.1)
theorem rowF_nil (j : Nat) : rowF [] j = 0 := rfl
theorem rowF_cons (p : Part) (r : List Part) (j : Nat) : rowF (p :: r) j = if j = p.1 then p.2 else rowF r j := by
  unfold rowF
  by_cases h : p.1 = j
  · rw [List.find?_cons_of_pos (by simp [h]), if_pos h.symm]; rfl
  · rw [List.find?_cons_of_neg (by simp [h]), if_neg (fun e => h e.symm)]
theorem rowF_out {j : Nat} : ∀ {r : List Part}, (∀ p ∈ r, p.1 ≠ j) → rowF r j = 0
  | [], _ => rfl
  | p :: r, h => by rw [rowF_cons, if_neg (fun e => h p List.mem_cons_self e.symm), rowF_out fun q hq => h q (List.mem_cons_of_mem _ hq)]
theorem rowF_snoc (p : Part) (j : Nat) : ∀ {r : List Part}, (∀ q ∈ r, q.1 ≠ p.1) → rowF (r ++ [p]) j = if j = p.1 then p.2 else rowF r j
  | [], _ => by rw [List.nil_append, rowF_cons]
  | a :: r, h => by
    rw [List.cons_append, rowF_cons, rowF_cons, rowF_snoc p j fun q hq => h q (List.mem_cons_of_mem _ hq)]
    have := h a List.mem_cons_self
    by_cases e : j = a.1
    · rw [if_pos e, if_pos e, if_neg (fun z => this (e.symm.trans z))]
    · rw [if_neg e, if_neg e]
theorem rowF_mem : ∀ {r : List Part} {p : Part}, (plc r).Nodup → p ∈ r → rowF r p.1 = p.2
  | a :: r, p, nd, h => by
    rw [plc, List.map_cons, List.nodup_cons] at nd
    rw [rowF_cons]
    rcases List.mem_cons.mp h with rfl | h
    · rw [if_pos rfl]
    · rw [if_neg (fun e => nd.1 (by rw [← e]; exact List.mem_map.mpr ⟨p, h, rfl⟩)), rowF_mem nd.2 h]
theorem rowF_ne {j : Nat} : ∀ {r : List Part}, rowF r j ≠ 0 → (j, rowF r j) ∈ r
  | [], h => absurd rfl h
  | a :: r, h => by
    rw [rowF_cons] at h ⊢
    by_cases e : j = a.1
    · rw [if_pos e] at h ⊢; rw [e]; exact List.mem_cons_self
    · rw [if_neg e] at h ⊢; exact List.mem_cons_of_mem _ (rowF_ne h)
theorem rowF_parts {l : List Nat} {f : Nat → Rat} (j : Nat) (nd : l.Nodup) : rowF (parts l f) j = if j ∈ l then f j else 0 := by
  have mem : ∀ {p : Part}, p ∈ parts l f ↔ p.1 ∈ l ∧ f p.1 ≠ 0 ∧ p.2 = f p.1 := fun {p} => by
    unfold parts
    rw [List.mem_map]
    constructor
    · rintro ⟨j, hj, rfl⟩
      obtain ⟨h1, h2⟩ := List.mem_filter.mp hj
      exact ⟨h1, by simpa using h2, rfl⟩
    · rintro ⟨h1, h2, h3⟩
      exact ⟨p.1, List.mem_filter.mpr ⟨h1, by simpa using h2⟩, by rw [← h3]⟩
  have nd2 : (plc (parts l f)).Nodup := by
    unfold plc parts
    rw [List.map_map]
    have : ((fun p : Part => p.1) ∘ fun j => (j, f j)) = id := rfl
    rw [this, List.map_id]
    exact nd.filter _
  by_cases hj : j ∈ l
  · rw [if_pos hj]
    by_cases hz : f j = 0
    · rw [hz]; exact rowF_out fun p hp e => (mem.mp hp).2.1 (by rw [e]; exact hz)
    · exact rowF_mem (p := (j, f j)) nd2 (mem.mpr ⟨hj, hz, rfl⟩)
  · rw [if_neg hj]
    exact rowF_out fun p hp e => hj (by rw [← e]; exact (mem.mp hp).1)

/-! ### the product, tuple by tuple -/
def clW (w : W1) : List Part := (w.1, 1) :: w.2.2.2
def jlW (w : W1) : List Part := (w.1, w.2.1) :: w.2.2.1
def addW (G : Mat) (w : W1) : Mat := fun i j => G i j + rowF (clW w) i * rowF (jlW w) j
structure SmPut (G : Mat) (w : W1) : Prop where
  sm : ∀ p ∈ clW w, ∀ q ∈ jlW w, Sm (G p.1 q.1) ∧ Sm p.2 ∧ Sm q.2 ∧ Sm (p.2 * q.2) ∧ Sm (G p.1 q.1 + p.2 * q.2)
structure PutOk (n : Nat) (ws : List W1) : Prop where
  cl : ∀ w ∈ ws, (plc (clW w)).Nodup ∧ ∀ p ∈ clW w, p.1 < n
  jl : ∀ w ∈ ws, (plc (jlW w)).Nodup ∧ ∀ p ∈ jlW w, p.1 < n
  sm : ∀ k w, ws[k]? = some w → SmPut ((ws.take k).foldl addW (fun _ _ => 0)) w
def gpM : Mat → Mat → List Nat → List Nat → Mat
  | G, _, [], _ => G
  | G, L, v :: p, rest => gpM (gstep G L v (p ++ rest)) (stk L v (p ++ rest)) p rest
theorem gpM_eq : ∀ (p : List Nat) {G L : Mat} {rest : List Nat}, (p ++ rest).Nodup → Piv L (p ++ rest) → ∀ i j, gpM G L p rest i j + (if i ∈ rest ∧ j ∈ rest then runM L p rest i j else 0) = G i j + (if i ∈ p ++ rest ∧ j ∈ p ++ rest then L i j else 0)
  | [], G, L, rest, _, _, i, j => rfl
  | v :: p, G, L, rest, nd, hp, i, j => by
    show gpM (gstep G L v (p ++ rest)) (stk L v (p ++ rest)) p rest i j + (if i ∈ rest ∧ j ∈ rest then runM (stk L v (p ++ rest)) p rest i j else 0) = _
    have nd' : (v :: (p ++ rest)).Nodup := nd
    have hp' : Piv L (v :: (p ++ rest)) := hp
    rw [gpM_eq p (rest := rest) (G := gstep G L v (p ++ rest)) (L := stk L v (p ++ rest)) (List.nodup_cons.mp nd').2 hp'.2 i j]
    exact gstep_eq nd' hp'.1 i j
theorem addW_w1 {n : Nat} {G L : Mat} {v : Nat} {r : List Nat} (nd : (v :: r).Nodup) (hr : ∀ j ∈ r, j < n) : addW G (w1 n L v r) = gstep G L v r := by
  have hv : v ∉ r := (List.nodup_cons.mp nd).1
  have ms : ∀ {j}, j ∈ srt n r ↔ j ∈ r := fun {j} => by
    unfold srt
    rw [List.mem_filter, List.mem_range, decide_eq_true_eq]
    exact ⟨fun z => z.2, fun z => ⟨hr j z, z⟩⟩
  have ns : (srt n r).Nodup := List.nodup_range.filter _
  funext i j
  show G i j + rowF ((v, 1) :: parts (srt n r) (fun i => L i v / L v v)) i * rowF ((v, L v v) :: parts (srt n r) (L v)) j = _
  rw [rowF_cons, rowF_cons, rowF_parts _ ns, rowF_parts _ ns]
  unfold gstep
  simp only [ms]
  congr 2
  by_cases hj : j = v
  · subst hj; simp
  · simp [hj]
theorem take_work (n : Nat) : ∀ (p : List Nat) (L : Mat) (r : List Nat) (G : Mat), (p ++ r).Nodup → (∀ j ∈ p ++ r, j < n) → ((work n L (p ++ r)).take p.length).foldl addW G = gpM G L p r
  | [], L, r, G, _, _ => by simp [gpM]
  | v :: p, L, r, G, nd, hl => by
    show ((w1 n L v (p ++ r) :: work n (stk L v (p ++ r)) (p ++ r)).take (p.length + 1)).foldl addW G = gpM (gstep G L v (p ++ r)) (stk L v (p ++ r)) p r
    have nd' : (v :: (p ++ r)).Nodup := nd
    have hl' : ∀ j ∈ v :: (p ++ r), j < n := hl
    rw [List.take_succ_cons, List.foldl_cons, addW_w1 nd' fun j hj => hl' j (List.mem_cons_of_mem _ hj)]
    exact take_work n p _ r _ (List.nodup_cons.mp nd').2 fun j hj => hl' j (List.mem_cons_of_mem _ hj)
theorem all_work {n : Nat} {L : Mat} {o : List Nat} (nd : o.Nodup) (hl : ∀ j ∈ o, j < n) (hp : Piv L o) (i j : Nat) : (work n L o).foldl addW (fun _ _ => 0) i j = if i ∈ o ∧ j ∈ o then L i j else 0 := by
  have h := take_work n o L [] (fun _ _ => 0) (by simpa using nd) (by simpa using hl)
  rw [List.append_nil, ← work_length n o L, List.take_length] at h
  rw [h]
  have := gpM_eq (G := fun _ _ => 0) (L := L) o (rest := []) (by simpa using nd) (by simpa using hp) i j
  simp only [List.append_nil, List.not_mem_nil, false_and, if_false] at this
  grind

/-! ### the answer, tuple by tuple -/
def fwW (F : Nat → Rat) (w : W1) : Nat → Rat := fun i => F i - rowF w.2.2.2 i * F w.1
def psum (F : Nat → Rat) : List Part → Rat
  | [] => 0
  | p :: r => p.2 * F p.1 + psum F r
theorem psum_snoc (F : Nat → Rat) (p : Part) : ∀ r : List Part, psum F (r ++ [p]) = psum F r + p.2 * F p.1
  | [] => by show p.2 * F p.1 + 0 = 0 + p.2 * F p.1; grind
  | a :: r => by show a.2 * F a.1 + psum F (r ++ [p]) = a.2 * F a.1 + psum F r + p.2 * F p.1; rw [psum_snoc F p r]; grind
def bkW (F : Nat → Rat) (w : W1) : Nat → Rat := fun i => if i = w.1 then (F w.1 - psum F w.2.2.1) / w.2.1 else F i
theorem psum_parts (F f : Nat → Rat) : ∀ l : List Nat, psum F (parts l f) = sm l fun j => f j * F j
  | [] => rfl
  | a :: l => by
    show _ = f a * F a + sm l fun j => f j * F j
    by_cases h : f a = 0
    · have : parts (a :: l) f = parts l f := by unfold parts; rw [List.filter_cons_of_neg (by simp [h])]
      rw [this, psum_parts F f l, h]; grind
    · have : parts (a :: l) f = (a, f a) :: parts l f := by unfold parts; rw [List.filter_cons_of_pos (by simp [h])]; rfl
      rw [this]
      show f a * F a + psum F (parts l f) = _
      rw [psum_parts F f l]
theorem fwW_w1 {n : Nat} {L : Mat} {F : Nat → Rat} {v : Nat} {r : List Nat} (hr : ∀ j ∈ r, j < n) : fwW F (w1 n L v r) = fwd L F v r := by
  have ms : ∀ {j}, j ∈ srt n r ↔ j ∈ r := fun {j} => by
    unfold srt
    rw [List.mem_filter, List.mem_range, decide_eq_true_eq]
    exact ⟨fun z => z.2, fun z => ⟨hr j z, z⟩⟩
  funext i
  show F i - rowF (parts (srt n r) (fun i => L i v / L v v)) i * F v = _
  have ns : (srt n r).Nodup := List.nodup_range.filter _
  rw [rowF_parts _ ns]
  unfold fwd
  simp only [ms]
  split <;> grind
end FF
end

/-! ## FFStage -/
section
set_option linter.all false
namespace FF
/-! ### the sizes along the run -/
def fwR : Mat → (Nat → Rat) → List Nat → List Nat → Nat → Rat
  | _, F, [], _ => F
  | L, F, v :: p, r => fwR (stk L v (p ++ r)) (fwd L F v (p ++ r)) p r
def bk (b k : Nat) : Nat := 2 ^ k * (b + 1) - 1
theorem bk_succ (b k : Nat) : bk (2 * b + 1) k = bk b (k + 1) := by
  unfold bk
  rw [Nat.pow_succ]
  have : 2 ^ k * (2 * b + 1 + 1) = 2 ^ k * 2 * (b + 1) := by grind
  rw [this]
theorem bk_le {b k n : Nat} (hk : k ≤ n) (h : 2 ^ n * (b + 1) ≤ m + 1) : bk b k ≤ m := by
  unfold bk
  have : 2 ^ k * (b + 1) ≤ 2 ^ n * (b + 1) := Nat.mul_le_mul_right _ (Nat.pow_le_pow_right (by decide) hk)
  omega
/-- the pivots of the first places -/
def Pre : Mat → List Nat → List Nat → Prop
  | _, [], _ => True
  | L, v :: p, r => L v v ≠ 0 ∧ Pre (stk L v (p ++ r)) p r
theorem stg_run {d : Nat → Int} : ∀ (p : List Nat) {L : Mat} {F : Nat → Rat} {b : Nat} {r : List Nat}, Pre L p r → Stg L F d b (p ++ r) → Stg (runM L p r) (fwR L F p r) d (bk b p.length) r
  | [], L, F, b, r, _, h => by
    have : bk b 0 = b := by unfold bk; simp
    rw [List.length_nil, this]
    exact h
  | v :: p, L, F, b, r, hp, h => by
    have := stg_run p hp.2 (h.step hp.1)
    rw [bk_succ] at this
    exact this
theorem pre_piv : ∀ (p : List Nat) {L : Mat} {r : List Nat}, Piv L (p ++ r) → Pre L p r
  | [], _, _, _ => trivial
  | v :: p, L, r, h => ⟨h.1, pre_piv p h.2⟩
theorem pre_of : ∀ (p : List Nat) {L : Mat} {r : List Nat}, (∀ p' v' r', p ++ r = p' ++ v' :: r' → p'.length < p.length → runM L p' (v' :: r') v' v' ≠ 0) → Pre L p r
  | [], _, _, _ => trivial
  | v :: p, L, r, h => ⟨h [] v (p ++ r) rfl (by simp), pre_of p fun p' v' r' e hl => by
    have := h (v :: p') v' r' (by rw [List.cons_append, List.cons_append, e]) (by simp; omega)
    show runM (stk L v (p ++ r)) p' (v' :: r') v' v' ≠ 0
    rw [e]
    exact this⟩
end FF
end

/-! ## W0 -/
section
set_option Elab.async false
set_option linter.all false
set_option maxRecDepth 100000
set_option maxHeartbeats 4000000
namespace FW
open PySem PySem.Spec PyProof.Rows L2 FF
/-! ### the text by places -/
def topS (i : Nat) : Stmt := PySem.Challenge.pw_fewfills_k53_whole_any_order.main.body.getD i (.Pass ⟨0, 0, 0, 0⟩)

/-! ### data that never changes -/
/-- at a: a tuple of the values xs (the heap's or the module's own) -/
abbrev TT (K : PySem.W.Frag) (H : Hp) (a : Addr) (xs : List V) : Prop := SqT K H a xs
mutual
inductive Im (K : PySem.W.Frag) (H : Hp) : V → PyData → Prop
  | non : Im K H .non .none
  | int (i : Int) : Im K H (.int i) (.int i)
  | tup {a : Addr} {xs : List V} {ds : List PyData} : TT K H a xs → ImAll K H xs ds → Im K H (.ref a) (.tuple ds)
inductive ImAll (K : PySem.W.Frag) (H : Hp) : List V → List PyData → Prop
  | nil : ImAll K H [] []
  | cons {v : V} {vs : List V} {d : PyData} {ds : List PyData} : Im K H v d → ImAll K H vs ds → ImAll K H (v :: vs) (d :: ds)
end
/-- tuples stand as they stood -/
structure Tup (H H' : Hp) : Prop where
  t : ∀ b xs, H b = some (.tup xs) → H' b = some (.tup xs)
  f : ∀ b o xs, H b = some (.frz o (.tup xs)) → H' b = some (.frz o (.tup xs))
section
variable {K : PySem.W.Frag} {H H' H1 H2 : Hp} {a p : Addr} {xs ys : List V} {v : V} {d : PyData} {ds es : List PyData}
theorem Tup.refl : Tup H H := ⟨fun _ _ h => h, fun _ _ _ h => h⟩
theorem Tup.trans (a : Tup H H1) (b : Tup H1 H2) : Tup H H2 := ⟨fun c o h => b.t c o (a.t c o h), fun c o u h => b.f c o u (a.f c o u h)⟩
theorem _root_.L2.Same.tup (e : Same H H') : Tup H H' := ⟨fun b xs h => e b _ h, fun b o u h => e b _ h⟩
theorem Tup.upd {o o' : HO} (h : H p = some o) (ho : ∀ xs, o ≠ .tup xs) (hf : ∀ q xs, o ≠ .frz q (.tup xs)) : Tup H (upd H p o') := ⟨fun b xs e => by
  rw [upd_ne (fun q => by rw [q, h] at e; exact ho xs (Option.some.inj e))]; exact e, fun b q u e => by
  rw [upd_ne (fun z => by rw [z, h] at e; exact hf q u (Option.some.inj e))]; exact e⟩
theorem Tup.lst {o' : HO} (h : H p = some (.lst xs)) : Tup H (L2.upd H p o') := .upd h (fun _ q => nomatch q) fun _ _ q => nomatch q
theorem Tup.dk {o' : HO} {kvs : List (Key × V)} (h : H p = some (.dK kvs)) : Tup H (L2.upd H p o') := .upd h (fun _ q => nomatch q) fun _ _ q => nomatch q
theorem Tup.new {o : HO} (h : H p = none) : Tup H (L2.upd H p o) := ⟨fun b xs e => by rw [upd_ne (ne_of_none e h)]; exact e, fun b q u e => by rw [upd_ne (ne_of_none e h)]; exact e⟩
theorem same_new {o : HO} (h : H p = none) : Same H (L2.upd H p o) := fun b xs e => by rw [upd_ne (ne_of_none e h)]; exact e
/-- what H does not know may change -/
theorem Same.mut {o : HO} (e : Same H H') (h : H p = none) : Same H (L2.upd H' p o) := fun b u ha => by
  rw [upd_ne (ne_of_none ha h)]; exact e b u ha
theorem TT.mono (t : Tup H H') (h : TT K H a xs) : TT K H' a xs := by
  rcases h with (h | ⟨o, h⟩) | h
  · exact .inl (.inl (t.t a xs h))
  · exact .inl (.inr ⟨o, t.f a o _ h⟩)
  · exact .inr h
theorem TT.sq (h : TT K H a xs) : SqT K H a xs := h
theorem TT.of (h : H a = some (.tup xs)) : TT K H a xs := .inl (.inl h)
mutual
theorem Im.mono (t : Tup H H') : ∀ {v : V} {d : PyData}, Im K H v d → Im K H' v d
  | _, _, .non => .non
  | _, _, .int i => .int i
  | _, _, .tup h q => .tup (TT.mono t h) (ImAll.mono t q)
theorem ImAll.mono (t : Tup H H') : ∀ {vs : List V} {ds : List PyData}, ImAll K H vs ds → ImAll K H' vs ds
  | _, _, .nil => .nil
  | _, _, .cons h q => .cons (Im.mono t h) (ImAll.mono t q)
end
mutual
theorem Im.dp : ∀ {v : V} {d : PyData}, Im K H v d → Dp K H v d
  | _, _, .non => .non
  | _, _, .int i => .int i
  | _, _, .tup h q => .tup h (ImAll.dp q)
theorem ImAll.dp : ∀ {vs : List V} {ds : List PyData}, ImAll K H vs ds → DpAll K H vs ds
  | _, _, .nil => .nil
  | _, _, .cons h q => .cons (Im.dp h) (ImAll.dp q)
end
theorem ImAll.length : ∀ {vs : List V} {ds : List PyData}, ImAll K H vs ds → vs.length = ds.length
  | _, _, .nil => rfl
  | _, _, .cons _ q => by simp [ImAll.length q]
theorem ImAll.get : ∀ {vs : List V} {ds : List PyData} {i : Nat} {d : PyData}, ImAll K H vs ds → ds[i]? = some d → ∃ v, vs[i]? = some v ∧ Im K H v d
  | _, _, _, _, .nil, e => by simp at e
  | _, _, 0, _, .cons h _, e => by simp at e; subst e; exact ⟨_, rfl, h⟩
  | _, _, i + 1, _, .cons _ q, e => by
    obtain ⟨v, h1, h2⟩ := ImAll.get (i := i) q (by simpa using e)
    exact ⟨v, by simpa using h1, h2⟩
theorem ImAll.got : ∀ {vs : List V} {ds : List PyData} {i : Nat} {v : V}, ImAll K H vs ds → vs[i]? = some v → ∃ d, ds[i]? = some d ∧ Im K H v d
  | _, _, _, _, .nil, e => by simp at e
  | _, _, 0, _, .cons h _, e => by simp at e; subst e; exact ⟨_, rfl, h⟩
  | _, _, i + 1, _, .cons _ q, e => by
    obtain ⟨v, h1, h2⟩ := ImAll.got (i := i) q (by simpa using e)
    exact ⟨v, by simpa using h1, h2⟩
theorem ImAll.append : ∀ {vs ws : List V} {ds es : List PyData}, ImAll K H vs ds → ImAll K H ws es → ImAll K H (vs ++ ws) (ds ++ es)
  | _, _, _, _, .nil, q => q
  | _, _, _, _, .cons h t, q => .cons h (ImAll.append t q)
theorem ImAll.one (h : Im K H v d) : ImAll K H [v] [d] := .cons h .nil
theorem Im.new (h : H p = none) (q : ImAll K H xs ds) : Im K (L2.upd H p (.tup xs)) (.ref p) (.tuple ds) := .tup (.of upd_same) (q.mono (.new h))
theorem Im.int_inv {i : Int} (h : Im K H v (.int i)) : v = .int i := by cases h; rfl
theorem Im.tup_inv (h : Im K H v (.tuple ds)) : ∃ a xs, v = .ref a ∧ TT K H a xs ∧ ImAll K H xs ds := by cases h with | tup h q => exact ⟨_, _, rfl, h, q⟩
theorem ImAll.one_inv (h : ImAll K H xs [d]) : ∃ v, xs = [v] ∧ Im K H v d := by
  cases h with
  | cons h q => cases q; exact ⟨_, rfl, h⟩
theorem ImAll.two_inv {d e : PyData} (h : ImAll K H xs [d, e]) : ∃ v w, xs = [v, w] ∧ Im K H v d ∧ Im K H w e := by
  cases h with
  | cons h q => cases q with | cons h' q => cases q; exact ⟨_, _, rfl, h, h'⟩
end

/-! ### numbers, parts, rows, sheets -/
def numD (q : Rat) : PyData := .tuple [.int q.num, .int (q.den : Int)]
def partD (p : Part) : PyData := .tuple [.int (p.1 : Int), numD p.2]
def rowD (r : List Part) : PyData := .tuple (r.map partD)
def sheetD (n : Nat) (rows : List (List Part)) : PyData := .tuple [.int (n : Int), .tuple (rows.map rowD)]
def w1D (w : W1) : PyData := .tuple [.int (w.1 : Int), numD w.2.1, rowD w.2.2.1, rowD w.2.2.2]
section
variable {K : PySem.W.Frag} {H H' : Hp} {v : V} {q : Rat} {p : Part}
theorem num_inv (h : Im K H v (numD q)) : ∃ a, v = .ref a ∧ TT K H a [.int q.num, .int (q.den : Int)] := by
  obtain ⟨a, xs, rfl, t, z⟩ := h.tup_inv
  obtain ⟨x, y, rfl, h1, h2⟩ := z.two_inv
  rw [h1.int_inv, h2.int_inv] at t
  exact ⟨a, rfl, t⟩
theorem num_new {b : Addr} (h : H b = some (.tup [.int q.num, .int (q.den : Int)])) : Im K H (.ref b) (numD q) := .tup (.of h) (.cons (.int _) (.cons (.int _) .nil))
theorem part_inv (h : Im K H v (partD p)) : ∃ a x, v = .ref a ∧ TT K H a [.int (p.1 : Int), x] ∧ Im K H x (numD p.2) := by
  obtain ⟨a, xs, rfl, t, z⟩ := h.tup_inv
  obtain ⟨x, y, rfl, h1, h2⟩ := z.two_inv
  rw [h1.int_inv] at t
  exact ⟨a, y, rfl, t, h2⟩
theorem row_inv {r : List Part} (h : Im K H v (rowD r)) : ∃ a xs, v = .ref a ∧ TT K H a xs ∧ ImAll K H xs (r.map partD) := h.tup_inv
end
/-- the promise's end: a value of such data, all else as it was -/
def RetIm (K : PySem.W.Frag) (d : PyData) (H : Hp) (Q : VK) : Prop := ∀ v H', Same H H' → Im K H' v d → Q v H'
/-- a new list of such data -/
def RetL (K : PySem.W.Frag) (ds : List PyData) (H : Hp) (Q : VK) : Prop := ∀ p xs H', Same H H' → H p = none → H' p = some (.lst xs) → ImAll K H' xs ds → Q (.ref p) H'
/-- nothing changed -/
def RetB (b : Bool) (H : Hp) (Q : VK) : Prop := ∀ H', Same H H' → Q (.bl b) H'

/-! ### defs of the text and their promises -/
structure Df (K : PySem.W.Frag) (mg : Str → Option Value) (x : Str) (st : Stmt) : Prop where
  ex : ∃ (f : Addr) (fd : FuncData), Fun K x x st f fd ∧ mg x = some (.ref f)
structure Fn (P : Program) (w : World) (K : PySem.W.Frag) (mg : Str → Option Value) (base : Heap) (CX : CXT) (k : Nat) (x : Str) (ps : List Str) (sp : Sp) : Prop where
  ex : ∃ (f : Addr) (fd : FuncData), FnOk P w K mg base CX k f fd ps sp ∧ mg x = some (.ref f) ∧ PySem.W.keepIn K (.ref f) = true ∧ Binds K fd ps []
section
variable {P : Program} {w : World} {K : PySem.W.Frag} {mg : Str → Option Value} {base : Heap} {CX : CXT} {x : Str} {st : Stmt} {N ps : List Str} {k j : Nat} {sp : Sp}
theorem Fn.mono (F : Fn P w K mg base CX k x ps sp) (h : k ≤ j) : Fn P w K mg base CX j x ps sp := by
  obtain ⟨f, fd, a, b⟩ := F.ex
  exact ⟨f, fd, a.mono h, b⟩
theorem Df.fn (D : Df K mg x st) (S : FnScope N ps (defScope st))
    (hb : ∀ (kV doc pm : Value) (an : Option Addr) (cdv ct : Value) (us : List Value), us.length = ps.length → bindArgs (PySem.W.fnOf x x (defArgs st) (defBody st) (defScope st) .none kV doc pm an cdv ct) ⟨us, []⟩ = pure (ps.zip us))
    (len : ∀ vs H Q E, sp vs H Q E → vs.length = ps.length)
    (hbody : ∀ (f : Addr) (cdv : Value) (A : Around) (outer : List Env) (s : Shared) (H : Hp) (vs : List V) (Q : VK) (E : XK), Room k (A.deeper (envOfC x (defScope st) s.heap.objs.size f cdv)) → sp vs H Q E →
      ∃ t, PSs (cxOf CX0 P w K mg base N x (defScope st) f cdv A outer s H E).nox (defBody st) t ∧ t { nx := fun _ H' => Q .non H', rt := Q } (start N vs) H) : Fn P w K mg base CX0 (k + 1) x ps sp := by
  obtain ⟨f, fd, F, g⟩ := D.ex
  exact ⟨f, fd, F.ok S len (hbody f), g, F.kp, F.binds hb⟩
variable {X : Cx}
theorem pe_fn {e : Expr} {es : List Expr} {t : TA} {p pos : Pos} {E : XK} (F : Fn X.prog X.w X.K X.mg X.base CX k x ps sp) (hr : Room k X.A) (hx : Passes CX X E) (ha : PA X (e :: es) t) (hg : Gl X x := by rfl)
    (hdb : (x == ("__debug__" : Str)) = false := by decide) (he : starEach (e :: es) X.env = (false, eval e X.env) :: starEach es X.env := by rfl) (hpl : (backTo pos (starEach es X.env)).any (·.1) = false := by rfl) :
    PE X (.Call (.Name x p) (e :: es) [] pos) (tCall sp [] E t) := by
  obtain ⟨f, fd, a, b, c, d⟩ := F.ex
  exact pe_call a hr hg b c d .nil hx ha hdb he hpl
/-! ### // and * of any size -/
def CFd (i j : Int) : Prop := j ≠ 0 ∧ Builtin.divisionGoesByPylong i j = false
theorem op_fdB : OpR X (binaryOp .FloorDiv) (rI CFd fun i j => .int (i.fdiv j)) := opI fun _ _ _ _ _ _ _ hc q => floordiv_int hc.1 q (.inl hc.2)
theorem op_mulB : OpR X (binaryOp .Mult) (rI IntMulOk fun i j => .int (i * j)) := opI fun _ _ _ _ _ _ _ hc q => mul_int q hc
end
theorem mul_ok {a b : Int} {m n : Nat} (ha : a.natAbs < 2 ^ m) (hb : b.natAbs < 2 ^ n) (h : m + n ≤ 1000000) : IntMulOk a b := by
  have bb : ∀ {x : Int} {k : Nat}, x.natAbs < 2 ^ k → Builtin.Int.intBits x ≤ k := fun {x k} hx => by
    unfold Builtin.Int.intBits
    split
    · exact Nat.zero_le _
    · rename_i h0
      have : x.natAbs ≠ 0 := by simpa using h0
      have := (Nat.log2_lt this).mpr hx
      omega
  have h1 := bb ha
  have h2 := bb hb
  have e : bitsLine = 134217728 := by decide
  unfold IntMulOk
  intro z
  rw [Bool.and_eq_true] at z
  have z2 := z.2
  unfold Builtin.Int.intTooBig at z2
  have z3 := of_decide_eq_true z2
  rw [e] at z3
  omega
/-- a quotient that is small -/
theorem fd_ok {g q : Int} (hg : g ≠ 0) (hq : q.natAbs < 2 ^ 4000) : Builtin.divisionGoesByPylong (g * q) g = false := by
  have hg' : (g == 0) = false := by simpa using hg
  show (decide ((if g == 0 then 0 else g.natAbs.log2 / 30 + 1) > 300) && decide ((if g * q == 0 then 0 else (g * q).natAbs.log2 / 30 + 1) > (if g == 0 then 0 else g.natAbs.log2 / 30 + 1) + 150)) = false
  rw [hg']
  by_cases hz : (g * q == 0) = true
  · rw [hz]; simp
  · have hz' : (g * q == 0) = false := by simpa using hz
    rw [hz']
    simp only [Bool.false_eq_true, if_false]
    have hne : g * q ≠ 0 := by simpa using hz'
    have lt : (g * q).natAbs < 2 ^ (g.natAbs.log2 + 1 + 4000) := by
      rw [Int.natAbs_mul, Nat.pow_add]
      have h1 : g.natAbs < 2 ^ (g.natAbs.log2 + 1) := Nat.lt_log2_self
      exact Nat.mul_lt_mul'' h1 hq
    have := (Nat.log2_lt (n := (g * q).natAbs) (by omega)).mpr lt
    rw [Bool.and_eq_false_iff]
    right
    simp only [decide_eq_false_iff_not]
    omega
end FW
end

/-! ## W0b -/
section
set_option Elab.async false
set_option linter.all false
set_option maxRecDepth 100000
set_option maxHeartbeats 4000000
namespace PySem
open Sem (wp)
theorem meets_enumerate_new1 {v : Value} {o : Obj} {H : Heap → Prop} (B : Begins v o H) :
    Meets (Builtin.«enumerate.__new__» ⟨[.type "enumerate", v], []⟩) (fun _ R s => H s.heap ∧
      R (.ok (.ret (.ref (s.heap.push o).objs.size))) { s with heap := (s.heap.push o).push { cls := .type "enumerate", data := .fields #[.none, .bool false, .ref s.heap.objs.size, rawInt 0, .none, .none] } }) :=
  .of_wp fun prog w A R s h => by
    obtain ⟨hp, g, d, tk, os⟩ := s; obtain ⟨h1, h⟩ := h
    have hsub := sub_enumerate
    have q1 : ∀ {A' : Around} {E : Value → Shared → Prop} {Q : Value → Shared → Prop}, Q (.ref hp.objs.size) ⟨hp.push o, g, d, tk, os⟩ → wpAny (model prog w) A' (pyIter v) Q E ⟨hp, g, d, tk, os⟩ :=
      fun q => B.iter prog w _ _ ⟨hp, g, d, tk, os⟩ _ h1 q
    wp_walk using q1
    refine wpAny_stack_any fun st => wpAny_pure ?_
    split
    · rename_i c _ _ _ _ _
      cases (c == Value.type "enumerate")
      · wp_walk using q1
        exact ⟨_, rfl, h⟩
      · wp_walk using q1
        exact ⟨_, rfl, h⟩
    · wp_walk using q1
      exact ⟨_, rfl, h⟩
theorem call_enumerate_tuple {prog : Program} {w : World} {A : Around} {E : Value → Shared → Prop} {s : Shared} {l : Addr} {items : Array Value} {Q : Value → Shared → Prop} (hL : s.heap.IsTuple l items)
    (h : ∀ h', IsEnum h' (s.heap.objs.size + 1) s.heap.objs.size 0 .none → h'.IsTupleIter s.heap.objs.size l 0 →
      (∀ b o, s.heap.get? b = some o → h'.get? b = some o) → Q (.ref (s.heap.objs.size + 1)) { s with heap := h' }) :
    wpAny (model prog w) A (call (.type "enumerate") [.ref l]) Q E s := by
  refine callType_new F.called_enumerate (by decide) (F.typeCall_enumerate_1 _) (F.newCall_enumerate_1 _) (fun obj => F.args_object_init_2 obj _) F.entry_enumerate_new
    (meets_enumerate_new1 (begins_tuple l items)) ⟨hL, ?_⟩
  have hz : (s.heap.push { cls := .type "tuple_iterator", data := .fields #[.ref l, .int 0 0] }).objs.size = s.heap.objs.size + 1 := Heap.size_push ..
  show _ ∧ _
  rw [hz]
  have he : IsEnum ((s.heap.push { cls := .type "tuple_iterator", data := .fields #[.ref l, .int 0 0] }).push
      { cls := .type "enumerate", data := .fields #[.none, .bool false, .ref s.heap.objs.size, rawInt 0, .none, .none] }) (s.heap.objs.size + 1) s.heap.objs.size 0 .none := by
    have := Heap.get?_push_size (s.heap.push { cls := .type "tuple_iterator", data := .fields #[.ref l, .int 0 0] })
      (o := { cls := .type "enumerate", data := .fields #[.none, .bool false, .ref s.heap.objs.size, rawInt 0, .none, .none] }) rfl
    rw [hz] at this; exact this
  refine ⟨⟨_, he, rfl⟩, h _ he ⟨_, Heap.get?_push_of_some _ (Heap.get?_push_size _ rfl), rfl, rfl⟩ fun b o x => Heap.get?_push_of_some _ (Heap.get?_push_of_some _ x)⟩
end PySem
namespace L2
open PySem PySem.Spec PyProof.Rows
/-! ### enumerate(tuple) -/
def IteT (K : PySem.W.Frag) (a : Addr) : It :=
  ⟨fun i H => ∃ (xs : List V) (x : V), SqT K H a xs ∧ xs[i]? = some x, fun i H v H' => ∃ T x, v = .ref T ∧ H T = none ∧ H' = upd H T (.tup [.int (i : Nat), x]) ∧ ∀ xs, SqT K H a xs → xs[i]? = some x, fun i H => ∃ xs : List V, SqT K H a xs ∧ xs.length = i⟩
theorem turn_enumT {P : Program} {w : World} {K : PySem.W.Frag} {elts : List Expr} {kk : Nat} {tpos : Pos} (a e it : Addr) :
    Turn P w K (.Tuple elts kk tpos) (IteT K a) [e, it] e (fun i h => (∃ old, IsEnum h e it ((i : Nat) : Int) old) ∧ h.IsTupleIter it a i ∧ e ≠ it ∧ a ≠ it ∧ e ≠ a) where
  mem := by simp
  obj := fun i h st b hb => by
    obtain ⟨⟨old, he⟩, ⟨o, ho, hc, hd⟩, _⟩ := st
    have e' : b = e ∨ b = it := by simpa using hb
    rcases e' with z | z
    · rw [z]; exact ⟨_, he, fun v q => nomatch q⟩
    · rw [z]; exact ⟨o, ho, fun v q => by rw [hd] at q; cases q⟩
  keep := fun i h h' st k => let ⟨⟨old, he⟩, hi, hne⟩ := st; ⟨⟨old, k e (by simp) _ he⟩, hi.at fun o q => k it (by simp) o q, hne⟩
  item := by
    intro X hP hw hK hc i pins s σ H E I hf st hg
    subst hP hw hK
    obtain ⟨⟨old, he⟩, hit, hne, hai, hea⟩ := st
    obtain ⟨xs, x, hq, hx⟩ := hg
    obtain ⟨its, rv, p, hz⟩ := I.tuple hq
    obtain ⟨u, hu, ru⟩ := rv.get hx
    have hel : e < s.heap.objs.size := Heap.lt_size he
    have hil : it < s.heap.objs.size := by obtain ⟨_, q, _⟩ := hit; exact Heap.lt_size q
    have hul : i < its.toArray.size := by
      have := (List.getElem?_eq_some_iff.mp hu).1
      simpa using this
    have D := Draws.tuple (prog := X.prog) (w := X.w) (A := X.A.in1) (I.ok.hd hc) it a hai its.toArray
    refine wpAny_pyNext_enum_itemC D he ⟨hit, p⟩ hul hne (by simp [hne, hea]) fun y h' tk hy ho hit' hT hsz hk => ?_
    have hyu : y = u := by
      have : its.toArray[i]? = some u := by simpa using hu
      rw [this] at hy; exact (Option.some.inj hy).symm
    subst hyu
    refine ⟨_, rfl, wpAny_letOwnedTupleGo_enum (s := { s with heap := h', toks := tk + 1 }) ho fun h'' he' sb => ?_⟩
    have hT2 : h''.get? s.heap.objs.size = some { cls := .type "tuple", data := .seq #[.int i tk, y] } := (sb.2 _ (Nat.ne_of_gt hel)).trans hT
    have new : ObjOk X.prog X.w (upd H s.heap.objs.size (.tup [.int (i : Nat), x])) h'' s.heap.objs.size (.tup [.int (i : Nat), x]) :=
      ⟨by show 2 ≤ sizeLine; decide, [.int i tk, y], .cons ⟨_, rfl⟩ (.cons ru .nil), ⟨_, hT2, rfl, _, rfl⟩⟩
    have I1 : Inv X pins σ (upd H s.heap.objs.size (.tup [.int (i : Nat), x])) { s with heap := h'', toks := tk + 1 } :=
      I.turnedNew (ch := [e, it]) (fun b ob hb q => (sb.2 b (fun z => hb (by simp [z]))).trans (hk b ob (fun z => hb (by simp [z])) (fun z => hb (by simp [z])) q)) hf (Nat.le_refl _) new
    refine ⟨.ref s.heap.objs.size, _, I1, rfl, ⟨_, x, rfl, I.hok.fresh (Nat.le_refl _), rfl, fun ys hy => by rw [I.tuple_inj hy hq]; exact hx⟩, ⟨⟨y, ?_⟩, hit'.1.at fun o q => (sb.2 it (Ne.symm hne)).trans q, hne, hai, hea⟩, fun b hb => ?_⟩
    · have e1 : ((i + 1 : Nat) : Int) = (i : Int) + 1 := by omega
      rw [e1]; exact he'
    · have hb' : b < s.heap.objs.size := by
        have e' : b = e ∨ b = it := by simpa using hb
        rcases e' with z | z
        · rw [z]; exact hel
        · rw [z]; exact hil
      rw [upd_ne (Nat.ne_of_lt hb')]
      exact (hf b hb).1
  done := by
    intro X hP hw hK hc i pins s σ H E I hf st hg
    subst hP hw hK
    obtain ⟨⟨old, he⟩, hit, hne, hai, hea⟩ := st
    obtain ⟨xs, hq, hx⟩ := hg
    obtain ⟨its, rv, p, hz⟩ := I.tuple hq
    obtain ⟨f0, f1, f2, f3, f4, f5⟩ := hf it (by simp)
    have hl := rv.length
    have hn : its.toArray.size = i := by simp; omega
    have D := Draws.tuple (prog := X.prog) (w := X.w) (A := X.A.in1) (I.ok.hd hc) it a hai its.toArray
    rw [hn] at D
    exact wpAny_pyNext_enum_endD D he ⟨hit, p⟩ fun h' eb => ⟨rfl, I.turned (t' := s.toks) (fun b o hb q => eb b o hb q) f0 f1 f3 f4 f5⟩
  self := fun A i s Q E st h => let ⟨⟨_, he⟩, _⟩ := st; wpAny_pyIter_enum he h
def iEnumT (K : PySem.W.Frag) (ta : TA) : TI := fun σ H R => ta σ H fun vs H1 => ∃ a xs, vs = [.ref a] ∧ SqT K H1 a xs ∧ R (IteT K a) H1
theorem pi_enumT {X : Cx} {e : Expr} {ta : TA} {p pos tpos : Pos} {elts : List Expr} {kk : Nat} (hg : Gl X "enumerate") (hm : X.mg "enumerate" = none) (ha : PA X [e] ta) (hs : starEach [e] X.env = [(false, eval e X.env)] := by rfl) :
    PI X (.Tuple elts kk tpos) (.Call (.Name "enumerate" p) [e] [] pos) (iEnumT X.K ta) := by
  refine ⟨fun pins s σ H R I h => ?_⟩
  refine Call_ (ld_blt I hg hm boot_enumerate (PyProof.Rows.callWith_type1 (thn (ha.run pos pins s σ H _ I h) fun us s1 ⟨vs, H1, I1, r1, q1⟩ => ?_) hs rfl))
  obtain ⟨a, xs, ex, hq, q⟩ := q1
  subst ex
  cases r1 with
  | cons r rr =>
    cases rr
    cases r
    obtain ⟨its, rv, p', hz⟩ := I1.tuple hq
    have hal : a < s1.heap.objs.size := by obtain ⟨o, ho, _⟩ := p'; exact Heap.lt_size ho
    refine call_enumerate_tuple (show s1.heap.IsTuple a its.toArray from p') fun h' he hit hk => wpAny_pyIter_enum he ?_
    have I2 : Inv X pins σ H1 { s1 with heap := h' } := I1.kept (t' := s1.toks) hk
    refine ⟨s1.heap.objs.size + 1, [s1.heap.objs.size + 1, s1.heap.objs.size], _, _, H1, rfl, I2, turn_enumT a (s1.heap.objs.size + 1) s1.heap.objs.size, ⟨⟨.none, he⟩, hit, Nat.succ_ne_self _, Nat.ne_of_lt hal, Nat.ne_of_gt (Nat.lt_succ_of_lt hal)⟩, fun b hb => ?_, q⟩
    have e' : b = s1.heap.objs.size + 1 ∨ b = s1.heap.objs.size := by simpa using hb
    have hle : s1.heap.objs.size ≤ b := by
      rcases e' with z | z
      · rw [z]; exact Nat.le_add_right _ _
      · rw [z]; exact Nat.le_refl _
    exact I1.fpOk hle (I1.hok.fresh hle)
/-! ### zip(tuple, list) -/
def ItzTL (K : PySem.W.Frag) (a b : Addr) : It :=
  ⟨fun i H => ∃ (xs ys : List V) (x y : V), SqT K H a xs ∧ SqL K H b ys ∧ xs[i]? = some x ∧ ys[i]? = some y,
    fun i H v H' => ∃ T x y, v = .ref T ∧ H T = none ∧ H' = upd H T (.tup [x, y]) ∧ (∀ xs, SqT K H a xs → xs[i]? = some x) ∧ ∀ ys, SqL K H b ys → ys[i]? = some y,
    fun i H => ∃ xs ys : List V, SqT K H a xs ∧ SqL K H b ys ∧ xs.length = i ∧ ys.length = i⟩
theorem turn_zipTL {P : Program} {w : World} {K : PySem.W.Frag} {elts : List Expr} {kk : Nat} {tpos : Pos} {a b z TI TO i1 i2 : Addr} (D : ZipSep2 z TI TO i1 i2 [i1, a] [i2, b]) (ha1 : a ≠ i1) (hb2 : b ≠ i2) :
    Turn P w K (.Tuple elts kk tpos) (ItzTL K a b) [z, TI, TO, i1, i2] z (fun i h => IsZip h z TI TO .none ∧ IsTupOf2 h TI (.ref i1) (.ref i2) ∧ (∃ x y, IsTupOf2 h TO x y) ∧ h.IsTupleIter i1 a i ∧ h.IsListIter i2 b i) where
  mem := by simp
  obj := fun i h st c hc => by
    obtain ⟨hz, hTI, ⟨x, y, hTO⟩, ⟨o1, e1, _, d1⟩, ⟨o2, e2, _, d2⟩⟩ := st
    have e' : c = z ∨ c = TI ∨ c = TO ∨ c = i1 ∨ c = i2 := by simpa using hc
    rcases e' with q | q | q | q | q
    · rw [q]; exact ⟨_, hz, fun v q => nomatch q⟩
    · rw [q]; exact ⟨_, hTI, fun v q => nomatch q⟩
    · rw [q]; exact ⟨_, hTO, fun v q => nomatch q⟩
    · rw [q]; exact ⟨o1, e1, fun v q => by rw [d1] at q; cases q⟩
    · rw [q]; exact ⟨o2, e2, fun v q => by rw [d2] at q; cases q⟩
  keep := fun i h h' st k => by
    obtain ⟨hz, hTI, ⟨x, y, hTO⟩, h1, h2⟩ := st
    exact ⟨k z (by simp) _ hz, k TI (by simp) _ hTI, ⟨x, y, k TO (by simp) _ hTO⟩, h1.at fun o q => k i1 (by simp) o q, h2.at fun o q => k i2 (by simp) o q⟩
  item := by
    intro X hP hw hK hc i pins s σ H E I hf st hg
    subst hP hw hK
    obtain ⟨hz, hTI, ⟨x0, y0, hTO⟩, h1, h2⟩ := st
    obtain ⟨xs, ys, x, y, hqx, hqy, hx, hy⟩ := hg
    obtain ⟨its, rv, p, _⟩ := I.tuple hqx
    obtain ⟨its2, rv2, p2, _⟩ := I.list hqy
    obtain ⟨u, hu, ru⟩ := rv.get hx
    obtain ⟨u2, hu2, ru2⟩ := rv2.get hy
    have hu' : its.toArray[i]? = some u := by simpa using hu
    have hu2' : its2.toArray[i]? = some u2 := by simpa using hu2
    have hzl : z < s.heap.objs.size := Heap.lt_size hz
    have D1 := Draws.tuple (prog := X.prog) (w := X.w) (A := X.A.in1) (I.ok.hd hc) i1 a ha1 its.toArray
    have D2 := Draws.list (prog := X.prog) (w := X.w) (A := X.A.in1) (I.ok.hd hc) i2 b hb2 its2.toArray
    refine wpAny_pyNext_zipD2_item D D1 D2 hz hTI hTO ⟨h1, p⟩ ⟨h2, p2.isList⟩ (Array.getElem?_eq_some_iff.mp hu').1 (Array.getElem?_eq_some_iff.mp hu2').1 fun x1 x2 h' tk hx1 hx2 z' TO' h1' h2' hT hsz hk => ?_
    have e1 : x1 = u := by rw [hu'] at hx1; exact (Option.some.inj hx1).symm
    have e2 : x2 = u2 := by rw [hu2'] at hx2; exact (Option.some.inj hx2).symm
    subst e1 e2
    refine ⟨_, rfl, wpAny_letOwnedTupleGo_zip (s := { s with heap := h', toks := tk }) z' fun h'' z'' sb => ?_⟩
    have hT2 : h''.get? s.heap.objs.size = some { cls := .type "tuple", data := .seq #[x1, x2] } := (sb.2 _ (Nat.ne_of_gt hzl)).trans hT
    have new : ObjOk X.prog X.w (upd H s.heap.objs.size (.tup [x, y])) h'' s.heap.objs.size (.tup [x, y]) :=
      ⟨by show 2 ≤ sizeLine; decide, [x1, x2], .cons ru (.cons ru2 .nil), ⟨_, hT2, rfl, _, rfl⟩⟩
    have I1 : Inv X pins σ (upd H s.heap.objs.size (.tup [x, y])) { s with heap := h'', toks := tk } :=
      I.turnedNew (t' := tk) (ch := [z, TI, TO, i1, i2]) (fun c o hb q => (sb.2 c (fun q' => hb (by simp [q']))).trans (hk c o (fun q' => hb (by simp [q'])) (fun q' => hb (by simp [q'])) (fun q' => hb (by simp [q'])) (fun q' => hb (by simp [q'])) q)) hf (Nat.le_refl _) new
    refine ⟨.ref s.heap.objs.size, _, I1, rfl, ⟨_, x, y, rfl, I.hok.fresh (Nat.le_refl _), rfl, fun l hl => by rw [I.tuple_inj hl hqx]; exact hx, fun l hl => by rw [I.list_inj hl hqy]; exact hy⟩, ⟨z'', ?_, ⟨x1, x2, ?_⟩, ?_, ?_⟩, fun c hcm => ?_⟩
    · exact (sb.2 _ D.TIz).trans (hk _ _ D.TIz D.TITO D.TIi1 D.TIi2 hTI)
    · exact (sb.2 _ D.TOz).trans TO'
    · exact h1'.1.at fun o q => (sb.2 _ D.zi1.symm).trans q
    · exact h2'.1.at fun o q => (sb.2 _ D.zi2.symm).trans q
    · have hlt : c < s.heap.objs.size := by
        have e' : c = z ∨ c = TI ∨ c = TO ∨ c = i1 ∨ c = i2 := by simpa using hcm
        rcases e' with q | q | q | q | q
        · rw [q]; exact hzl
        · rw [q]; exact Heap.lt_size hTI
        · rw [q]; exact Heap.lt_size hTO
        · rw [q]; obtain ⟨_, e1, _⟩ := h1; exact Heap.lt_size e1
        · rw [q]; obtain ⟨_, e2, _⟩ := h2; exact Heap.lt_size e2
      rw [upd_ne (Nat.ne_of_lt hlt)]
      exact (hf c hcm).1
  done := by
    intro X hP hw hK hc i pins s σ H E I hf st hg
    subst hP hw hK
    obtain ⟨hz, hTI, ⟨x0, y0, hTO⟩, h1, h2⟩ := st
    obtain ⟨xs, ys, hqx, hqy, he1, he2⟩ := hg
    obtain ⟨its, rv, p, _⟩ := I.tuple hqx
    obtain ⟨its2, rv2, p2, _⟩ := I.list hqy
    have l1 := rv.length
    have l2 := rv2.length
    have D1 := Draws.tuple (prog := X.prog) (w := X.w) (A := X.A.in1) (I.ok.hd hc) i1 a ha1 its.toArray
    have D2 := Draws.list (prog := X.prog) (w := X.w) (A := X.A.in1) (I.ok.hd hc) i2 b hb2 its2.toArray
    have n1 : its.toArray.size = i := by simp; omega
    have n2 : its2.toArray.size = i := by simp; omega
    exact wpAny_pyNext_zipD2_end D D1 D2 hz hTI hTO ⟨h1, p⟩ ⟨h2, p2.isList⟩ (by omega) (by omega) (.inl n1.symm) fun h' tk hk => ⟨rfl, I.turnedL (t' := tk) (ch := [z, TI, TO, i1, i2]) (fun c o hb q =>
      hk c o (fun q' => hb (by simp [q'])) (fun q' => hb (by simp [q'])) (fun q' => hb (by simp [q'])) (fun q' => hb (by simp [q'])) q) hf⟩
  self := fun A i s Q E st h => wpAny_pyIter_zip st.1 h
def iZipTL (K : PySem.W.Frag) (ta : TA) : TI := fun σ H R => ta σ H fun vs H1 => ∃ a b xs ys, vs = [.ref a, .ref b] ∧ SqT K H1 a xs ∧ SqL K H1 b ys ∧ R (ItzTL K a b) H1
theorem pi_zipTL {X : Cx} {e e2 : Expr} {ta : TA} {p pos tpos : Pos} {elts : List Expr} {kk : Nat} (hg : Gl X "zip") (hm : X.mg "zip" = none) (ha : PA X [e, e2] ta)
    (hs : starEach [e, e2] X.env = (false, eval e X.env) :: starEach [e2] X.env := by rfl) (hpl : (backTo pos (starEach [e2] X.env)).any (·.1) = false := by rfl) :
    PI X (.Tuple elts kk tpos) (.Call (.Name "zip" p) [e, e2] [] pos) (iZipTL X.K ta) := by
  refine ⟨fun pins s σ H R I h => ?_⟩
  refine Call_ (ld_blt I hg hm PyProof.Rows.boot_zip (PyProof.Rows.callWith_type1 (thn (ha.run pos pins s σ H _ I h) fun us s1 ⟨vs, H1, I1, r1, q1⟩ => ?_) hs hpl))
  obtain ⟨a, b, xs, ys, ex, hqx, hqy, q⟩ := q1
  subst ex
  cases r1 with
  | cons r rr =>
    cases rr with
    | cons r' rr =>
      cases rr
      cases r
      cases r'
      obtain ⟨its, rv, p1, _⟩ := I1.tuple hqx
      obtain ⟨its2, rv2, p2, _⟩ := I1.list hqy
      have la : a < s1.heap.objs.size := by obtain ⟨o, ho, _⟩ := p1; exact Heap.lt_size ho
      have lb : b < s1.heap.objs.size := p2.lt
      refine zip_begins2 (begins_tuple a its.toArray) (begins_list b its2.toArray) p1 p2.isList fun h' hz hTI hTO h1 h2 hsz hk => wpAny_pyIter_zip hz ?_
      have I2 : Inv X pins σ H1 { s1 with heap := h' } := I1.kept (t' := s1.toks) hk
      refine ⟨s1.heap.objs.size + 4, [s1.heap.objs.size + 4, s1.heap.objs.size + 2, s1.heap.objs.size + 3, s1.heap.objs.size, s1.heap.objs.size + 1], _, _, H1, rfl, I2,
        turn_zipTL (zip_sep2 (N := s1.heap.objs.size) (fp1 := [a]) (fp2 := [b]) (fun c hc => by simp at hc; rw [hc]; exact la) (fun c hc => by simp at hc; rw [hc]; exact lb)) (Nat.ne_of_lt la) (Nat.ne_of_lt (Nat.lt_succ_of_lt lb)),
        ⟨hz, hTI, ⟨_, _, hTO⟩, ⟨_, h1, rfl, rfl⟩, ⟨_, h2, rfl, rfl⟩⟩, fun c hcm => ?_, q⟩
      have e' : c = s1.heap.objs.size + 4 ∨ c = s1.heap.objs.size + 2 ∨ c = s1.heap.objs.size + 3 ∨ c = s1.heap.objs.size ∨ c = s1.heap.objs.size + 1 := by simpa using hcm
      have hle : s1.heap.objs.size ≤ c := by
        rcases e' with z | z | z | z | z
        · rw [z]; exact Nat.le_add_right _ _
        · rw [z]; exact Nat.le_add_right _ _
        · rw [z]; exact Nat.le_add_right _ _
        · rw [z]; exact Nat.le_refl _
        · rw [z]; exact Nat.le_add_right _ _
      exact I1.fpOk hle (I1.hok.fresh hle)
end L2
end

/-! ## W0c -/
section
set_option Elab.async false
set_option linter.all false
set_option maxRecDepth 100000
set_option maxHeartbeats 4000000
namespace SrtH
open PySem PySem.Spec PyProof.Rows Srt SrtO
/-- a tuple whose first item is the int x -/
def IsHd (h : Heap) (v : Value) (x : Int) : Prop := ∃ a o t r n, v = .ref a ∧ h.get? a = some o ∧ o.cls = .type "tuple" ∧ o.data = .seq (.int x t :: r : List Value).toArray n
theorem IsHd.keeps {h h' : Heap} {v : Value} {x : Int} (p : IsHd h v x) (k : ∀ b o, h.get? b = some o → o.cls = .type "tuple" → h'.get? b = some o) : IsHd h' v x := by
  obtain ⟨a, o, t, r, n, e, ho, hc, hd⟩ := p
  exact ⟨a, o, t, r, n, e, k _ _ ho hc, hc, hd⟩
theorem swo_int (k : Value → Int) : Swo fun v u => decide (k v < k u) := by
  refine ⟨fun x y h => ?_, fun x y z h1 h2 => ?_⟩
  · have a : k x < k y := of_decide_eq_true h
    exact decide_eq_false (by omega)
  · have a := of_decide_eq_false h1
    have b := of_decide_eq_false h2
    exact decide_eq_false (by omega)
section
variable {prog : Program} {w : World} {A : Around} {E : Value → Shared → Prop} {s : Shared}
theorem kat_self : ∀ (l : List Value) (i : Nat), PySem.W.KatLex prog w A true false (fun r s' => s' = s ∧ r = false) (l.zip l) i s
  | [], i => PySem.W.kat_nil ⟨rfl, rfl⟩
  | v :: l, i => PySem.W.kat_cons ((PySem.SeqAt.EqAt.same v) prog w _ _ (PySem.W.kat_go (fun _ => PySem.W.kat_yes (kat_self l (i + 1))) (fun e => absurd e (by decide))))
theorem hd_cmp {vs : List Value} {k : Value → Int} (hp : ∀ v ∈ vs, IsHd s.heap v (k v)) (inj : ∀ v ∈ vs, ∀ u ∈ vs, k v = k u → v = u) : Cmp prog w A s (tuples' true) (fun p => p.1 ∈ vs) (lt2 fun v u => decide (k v < k u)) := by
  intro p q hm hm'
  have h1 := hp _ hm
  have h2 := hp _ hm'
  have hi := inj _ hm _ hm'
  show wpAny (model prog w) A (keyLt' (tuples' true) p.1 q.1) (fun r s' => s' = s ∧ r = decide (k p.1 < k q.1)) (fun _ _ => False) s
  by_cases hk : k p.1 = k q.1
  · have e := hi hk
    rw [← e]
    obtain ⟨a, o, t, r, n, e1, ho, hc, hd⟩ := h1
    rw [e1]
    refine PySem.W.kat_lt ho hd ho hd ?_
    rw [decide_eq_false (Nat.lt_irrefl _), decide_eq_false (Int.lt_irrefl _)]
    exact kat_self _ 0
  · generalize k p.1 = x at h1 hk ⊢
    generalize k q.1 = x' at h2 hk ⊢
    obtain ⟨a, o, t, r, n, e, ho, hc, hd⟩ := h1
    obtain ⟨a', o', t', r', n', e', ho', hc', hd'⟩ := h2
    rw [e, e']
    refine PySem.W.kat_lt ho hd ho' hd' ?_
    show PySem.W.KatLex prog w A true _ _ ((.int x t, .int x' t') :: (r.zip r')) 0 s
    refine PySem.W.kat_cons (SeqAt.EqAt.int_int x t x' t' prog w _ _ ?_)
    refine PySem.W.kat_go (fun e1 => ?_) (fun e1 => ?_)
    · exact absurd (by simpa using e1) hk
    · exact PySem.W.kat_no (oneLt_int ⟨rfl, rfl⟩)
theorem firsts_hd {h : Heap} {k : Value → Int} : ∀ {vs : List Value}, (∀ v ∈ vs, IsHd h v (k v)) → ∃ fs : List Value, PySem.W.KatTups h vs fs ∧ fs.length = vs.length ∧ ∀ f ∈ fs, ∃ x t, f = Value.int x t
  | [], _ => ⟨[], PySem.W.KatTups.nil, rfl, fun f hf => absurd hf (by simp)⟩
  | v :: vs, hp => by
    obtain ⟨fs, h1, h2, h3⟩ := firsts_hd fun u hu => hp u (List.mem_cons_of_mem _ hu)
    obtain ⟨a, o, t, r, n, e, ho, hc, hd⟩ := hp v List.mem_cons_self
    subst e
    refine ⟨.int (k (.ref a)) t :: fs, PySem.W.KatTups.cons ho hc hd rfl h1, by simp [h2], fun f hf => ?_⟩
    rcases List.mem_cons.mp hf with rfl | hf
    · exact ⟨_, _, rfl⟩
    · exact h3 f hf
theorem hds_sortableO {a : Addr} {vs : List Value} {k : Value → Int} (h0 : 0 < vs.length) (hp : ∀ v ∈ vs, IsHd s.heap v (k v)) (inj : ∀ v ∈ vs, ∀ u ∈ vs, k v = k u → v = u) (ha : ∀ o, s.heap.get? a = some o → o.cls ≠ .type "tuple") : SortableO prog w A s a vs fun v u => decide (k v < k u) := by
  intro h' keep
  have hp' : ∀ v ∈ vs, IsHd h' v (k v) := fun v hm => (hp v hm).keeps fun b o e c => keep b o (fun z => by subst z; exact ha o e c) e
  obtain ⟨fs, h1, h2, h3⟩ := firsts_hd hp'
  refine ⟨tuples' true, fun Q E hq => ?_, hd_cmp hp' inj⟩
  refine PySem.W.kat_kind (T := .type "int") h1 (by omega) (fun f hm => ?_) (by rfl) ?_
  · obtain ⟨x, t, rfl⟩ := h3 f hm
    exact PySem.W.Looks.now
  · have e : (Value.type "int" != Value.type "tuple") = true := by first | decide +kernel | rfl | decide
    rw [e]
    exact hq
theorem sorted_hds {l : Addr} {vs : List Value} {k : Value → Int} {Q : Value → Shared → Prop} (hl : s.heap.IsList l vs.toArray) (hz : vs.length ≤ sizeLine) (hp : ∀ v ∈ vs, IsHd s.heap v (k v)) (inj : ∀ v ∈ vs, ∀ u ∈ vs, k v = k u → v = u)
    (h : ∀ (h' : Heap) (d : Addr) (out : List Value), out.Pairwise (fun v u => k v ≤ k u) → out.Perm vs → (∀ b o, s.heap.get? b = some o → h'.get? b = some o) → s.heap.objs.size ≤ d → (∃ n, h'.get? d = some (seqObj "list" out.toArray n)) → Q (.ref d) { s with heap := h' }) :
    wpAny (model prog w) A (call (.builtin "sorted") [.ref l]) Q E s := by
  refine sorted_ord (swo_int k) hl hz (fun h2 h₁ a ha kk => ?_) fun out hs hb => ?_
  · refine hds_sortableO (s := { s with heap := h₁ }) (by omega) (fun v hm => (hp v hm).keeps fun b o e _ => (kk b o e).2) inj fun o e => ?_
    have e' : some o = some (seqObj "list" vs.toArray 0) := e.symm.trans ha
    cases e'
    intro c
    exact absurd (Value.type.inj c) (by decide)
  · refine h _ _ out ?_ hb.perm (fun b o e => sortedAll_old e) (Nat.le_succ _) (sortedAll_at s.heap vs out.toArray)
    exact List.Pairwise.imp (fun {u v} (huv : decide (k v < k u) = false) => by have := of_decide_eq_false huv; omega) hs
end
end SrtH
namespace FW
open PySem PySem.Spec PyProof.Rows L2 FF
/-- what is in another order under a map -/
theorem perm_of_map {α β : Type} (f : α → β) : ∀ {z : List α} {ys : List β}, ys.Perm (z.map f) → ∃ z' : List α, z'.Perm z ∧ ys = z'.map f := by
  intro z ys h
  generalize e : z.map f = m at h
  induction h generalizing z with
  | nil => cases z with
    | nil => exact ⟨[], .refl _, rfl⟩
    | cons a z => simp at e
  | @cons x l1 l2 h ih =>
    cases z with
    | nil => simp at e
    | cons a z =>
      obtain ⟨rfl, e2⟩ := List.cons.inj (show f a :: z.map f = x :: l2 from e)
      obtain ⟨z', h1, h2⟩ := ih e2
      exact ⟨a :: z', h1.cons a, by rw [h2]; rfl⟩
  | swap x y l =>
    match z, e with
    | a :: b :: z, e =>
      obtain ⟨e1, e'⟩ := List.cons.inj (show f a :: f b :: z.map f = x :: y :: l from e)
      obtain ⟨e2, e3⟩ := List.cons.inj e'
      exact ⟨b :: a :: z, List.Perm.swap .., by rw [← e1, ← e2, ← e3]; rfl⟩
    | [], e => simp at e
    | [_], e => simp at e
  | trans h1 h2 ih1 ih2 =>
    obtain ⟨z1, p1, q1⟩ := ih2 e
    obtain ⟨z2, p2, q2⟩ := ih1 q1.symm
    exact ⟨z2, p2.trans p1, q2⟩
section
variable {X : Cx} {K : PySem.W.Frag}
theorem imAll_zip {H : Hp} {α : Type} (D : α → PyData) : ∀ {xs : List V} {l : List α}, ImAll K H xs (l.map D) → ∃ z : List (V × α), xs = z.map (·.1) ∧ l = z.map (·.2) ∧ ∀ p ∈ z, Im K H p.1 (D p.2)
  | [], [], _ => ⟨[], rfl, rfl, fun p hp => absurd hp (by simp)⟩
  | v :: xs, a :: l, h => by
    cases h with
    | cons h1 h2 =>
      obtain ⟨z, e1, e2, h3⟩ := imAll_zip D h2
      exact ⟨(v, a) :: z, by rw [e1]; rfl, by rw [e2]; rfl, fun p hp => by
        rcases List.mem_cons.mp hp with rfl | hp
        · exact h1
        · exact h3 p hp⟩
  | [], _ :: _, h => by cases h
  | _ :: _, [], h => by cases h
theorem imAll_of {H : Hp} {α : Type} (D : α → PyData) : ∀ {z : List (V × α)}, (∀ p ∈ z, Im K H p.1 (D p.2)) → ImAll K H (z.map (·.1)) ((z.map (·.2)).map D)
  | [], _ => .nil
  | p :: z, h => .cons (h p List.mem_cons_self) (imAll_of D fun q hq => h q (List.mem_cons_of_mem _ hq))
/-- sorted(xs) of tuples with an int ahead, all unlike -/
def rSortedH (K : PySem.W.Frag) : List V → Hp → VK → Prop := fun vs H Q => ∃ (α : Type) (a : Addr) (xs : List V) (l : List α) (hd : α → Int) (D : α → PyData), vs = [V.ref a] ∧ SqL K H a xs ∧ ImAll K H xs (l.map D) ∧
  (∀ x ∈ l, ∃ ds, D x = .tuple (.int (hd x) :: ds)) ∧ (l.map hd).Nodup ∧
  ∀ (ys : List V) (p : Addr) (l' : List α), l'.Perm l → l'.Pairwise (fun x y => hd x < hd y) → ImAll K H ys (l'.map D) → H p = none → Q (.ref p) (upd H p (.lst ys))
theorem sqt_hd {pins : List (Addr × Obj)} {σ : L2.St} {H : Hp} {s : Shared} (I : Inv X pins σ H s) {v : V} {i : Int} {ds : List PyData} (h : Im X.K H v (.tuple (.int i :: ds))) : ∃ t xs, v = .ref t ∧ SqT X.K H t (.int i :: xs) := by
  obtain ⟨t, xs, rfl, tt, z⟩ := h.tup_inv
  cases z with
  | cons h1 h2 =>
    rw [h1.int_inv] at tt
    exact ⟨t, _, rfl, tt⟩
theorem cr_sortedH (hK : X.K = K := by rfl) : CallR X (.builtin "sorted") (rSortedH K) := by
  subst hK
  intro pins s σ H vs us Q I r h
  obtain ⟨α, a, xs, l, hd, D, rfl, hs, him, hD, nd, q⟩ := h
  obtain ⟨its, rv, hl, hz⟩ := I.list hs
  obtain ⟨u, rfl, ru⟩ := vals1 r
  obtain rfl : u = Value.ref a := ru
  obtain ⟨z, ex, el, hz2⟩ := imAll_zip D him
  have hrefs : ∀ x ∈ xs, ∃ t, x = V.ref t := fun x hx => by
    rw [ex] at hx
    obtain ⟨p, hp, rfl⟩ := List.mem_map.mp hx
    obtain ⟨ds, eD⟩ := hD p.2 (by rw [el]; exact List.mem_map.mpr ⟨p, hp, rfl⟩)
    have := hz2 p hp
    rw [eD] at this
    obtain ⟨t, _, e, _⟩ := sqt_hd I this
    exact ⟨t, e⟩
  obtain ⟨e1, e2⟩ := refs_back rv hrefs
  -- the head of a value
  let G : V → Int → Prop := fun x i => ∃ t r, x = .ref t ∧ SqT X.K H t (.int i :: r)
  have Guniq : ∀ x i j, G x i → G x j → i = j := fun x i j ⟨t, r, e, h1⟩ ⟨t', r', e', h2⟩ => by
    rw [e] at e'
    cases e'
    have := I.tuple_inj h1 h2
    exact V.int.inj (List.cons.inj this).1
  obtain ⟨k, hk⟩ : ∃ k : V → Int, ∀ x i, G x i → k x = i := ⟨fun x => Classical.epsilon (fun i => G x i), fun x i hg => Guniq x _ i (Classical.epsilon_spec ⟨i, hg⟩) hg⟩
  have kz : ∀ p ∈ z, k p.1 = hd p.2 ∧ G p.1 (hd p.2) := fun p hp => by
    obtain ⟨ds, eD⟩ := hD p.2 (by rw [el]; exact List.mem_map.mpr ⟨p, hp, rfl⟩)
    have := hz2 p hp
    rw [eD] at this
    obtain ⟨t, xs, e, hq⟩ := sqt_hd I this
    have g : G p.1 (hd p.2) := ⟨t, xs, e, hq⟩
    exact ⟨hk _ _ g, g⟩
  have ndz : ∀ p ∈ z, ∀ p' ∈ z, hd p.2 = hd p'.2 → p = p' := by
    have nz : (z.map fun p => hd p.2).Nodup := by rw [el, List.map_map] at nd; exact nd
    intro p hp p' hp' e
    obtain ⟨i, hi, e1⟩ := List.getElem_of_mem hp
    obtain ⟨j, hj, e2⟩ := List.getElem_of_mem hp'
    have : i = j := by
      refine (List.getElem_inj (h₀ := by simpa using hi) (h₁ := by simpa using hj) nz).mp ?_
      simp only [List.getElem_map, e1, e2, e]
    subst this
    rw [← e1, ← e2]
  have back : ∀ u ∈ its, ∃ p ∈ z, backV u = p.1 ∧ u = (match p.1 with | .ref t => Value.ref t | _ => Value.none) := fun u hu => by
    obtain ⟨t, rfl⟩ := e2 u hu
    have hm : V.ref t ∈ xs := by rw [e1]; exact List.mem_map.mpr ⟨_, hu, rfl⟩
    rw [ex] at hm
    obtain ⟨p, hp, ep⟩ := List.mem_map.mp hm
    exact ⟨p, hp, ep.symm, by rw [ep]⟩
  refine SrtH.sorted_hds (k := fun u => k (backV u)) hl.isList (by rw [← rv.length]; exact hz) (fun v hv => ?_) (fun v hv u hu e => ?_) fun h' d out h1 h2 kp hdd hn => ?_
  · obtain ⟨p, hp, eb, eu⟩ := back v hv
    obtain ⟨kp1, t, r, et, hq⟩ := kz p hp
    show SrtH.IsHd s.heap v (k (backV v))
    rw [eb, kp1, eu, et]
    obtain ⟨its2, r2, ⟨o, ho, hc, n, hdt⟩, _⟩ := I.tuple hq
    cases r2 with
    | cons ri rr =>
      obtain ⟨t1, rfl⟩ := ri
      exact ⟨t, o, t1, _, n, rfl, ho, hc, hdt⟩
  · obtain ⟨p, hp, eb, eu⟩ := back v hv
    obtain ⟨p', hp', eb', eu'⟩ := back u hu
    have e : k (backV v) = k (backV u) := e
    rw [eb, eb', (kz p hp).1, (kz p' hp').1] at e
    have := ndz p hp p' hp' e
    subst this
    rw [eu, eu']
  · have h3 : ∀ u ∈ out, ∃ a, u = Value.ref a := fun u hu => e2 u (h2.mem_iff.mp hu)
    obtain ⟨n, hn⟩ := hn
    have hb : (out.map backV).Perm (z.map (·.1)) := by rw [← ex, e1]; exact h2.map backV
    obtain ⟨z', hz', eo⟩ := perm_of_map _ hb
    have hlen : (out.map backV).length ≤ sizeLine := by rw [hb.length_eq, ← ex]; exact hz
    have hl' : (z'.map (·.2)).Perm l := by rw [el]; exact hz'.map _
    refine ⟨.ref d, upd H d (.lst (out.map backV)), I.laid (t' := s.toks) kp hdd ⟨hlen, out, n, vals_back h3, hn⟩, rfl, q _ d (z'.map (·.2)) hl' ?_ ?_ (I.hok.fresh hdd)⟩
    · have pw : (out.map backV).Pairwise (fun x y => k x ≤ k y) := List.pairwise_map.mpr h1
      rw [eo] at pw
      have pw2 := List.pairwise_map.mp pw
      refine List.pairwise_map.mpr ?_
      have nz : (z'.map fun p => hd p.2).Nodup := by
        have : (z'.map fun p => hd p.2).Perm (l.map hd) := by rw [el, List.map_map]; exact hz'.map _
        exact this.nodup_iff.mpr nd
      have nz2 := List.pairwise_map.mp nz
      refine List.Pairwise.imp_of_mem (R := fun p p' => k p.1 ≤ k p'.1 ∧ hd p.2 ≠ hd p'.2) (fun {p p'} hp hp' hh => ?_) (pw2.and nz2)
      have a1 := (kz p (hz'.mem_iff.mp hp)).1
      have a2 := (kz p' (hz'.mem_iff.mp hp')).1
      have := hh.1
      have := hh.2
      rw [a1, a2] at *
      omega
    · rw [eo]
      exact imAll_of D fun p hp => hz2 p (hz'.mem_iff.mp hp)
end
end FW
end

/-! ## W0d -/
section
set_option Elab.async false
set_option linter.all false
set_option maxRecDepth 100000
set_option maxHeartbeats 4000000
namespace FW
open PySem PySem.Spec PyProof.Rows L2 FF
/-! ### min, max of a tuple of two ints -/
section
variable {prog : Program} {w : World} {A : Around} {E : Value → Shared → Prop} {s : Shared} {l : Addr} {a b : Int} {t u : Tok} {Q : Value → Shared → Prop}
theorem min_tup2 (hh : A.handled = none) (hT : s.heap.IsTuple l (intItems #[(a, t), (b, u)]))
    (h : ∀ h' tk x, (∀ c o, s.heap.get? c = some o → h'.get? c = some o) → Q (.int (min a b) x) { s with heap := h', toks := tk }) : wpAny (model prog w) A (call (.builtin "min") [.ref l]) Q E s := by
  have hl : l < s.heap.objs.size := by obtain ⟨o, e, _⟩ := hT; exact Heap.lt_size e
  refine call_min_walk (wpAny_pyIter_tuple hT ?_)
  refine ⟨_, [_, l], [_], _, _, _, _, rfl, Walks.tuple (A := A.in1) hh _ l (Nat.ne_of_lt hl) (intItems #[(a, t), (b, u)]),
    ⟨⟨_, Heap.get?_push_size _ rfl, rfl, rfl⟩, hT.push _⟩, fun c hc => ?_, by simp [intItems], CmpOf.ints_lt (numAt #[(a, t), (b, u)]) (fun _ _ => intItems_at), fun v h' tk hP hk => ?_⟩
  · show c < (s.heap.push _).objs.size
    rw [Heap.size_push]
    rcases List.mem_cons.mp hc with rfl | hc
    · exact Nat.lt_succ_self _
    · rcases List.mem_cons.mp hc with rfl | hc
      · exact Nat.lt_succ_of_lt hl
      · cases hc
  · have hold : ∀ c o, s.heap.get? c = some o → h'.get? c = some o := fun c o e => by
      refine hk c o (fun hm => ?_) (Heap.get?_push_of_some _ e)
      have z := List.mem_singleton.mp hm
      have := Heap.lt_size e; rw [z] at this; exact Nat.lt_irrefl _ this
    obtain ⟨x, rfl⟩ := intItems_at hP
    have : numAt #[(a, t), (b, u)] (argBest (fun i j => decide (numAt #[(a, t), (b, u)] i < numAt #[(a, t), (b, u)] j)) ((intItems #[(a, t), (b, u)]).size - 1)) = min a b := by
      rw [show (intItems #[(a, t), (b, u)]).size - 1 = 1 by simp [intItems]]
      show numAt #[(a, t), (b, u)] (if decide (b < a) = true then 1 else 0) = min a b
      by_cases hab : b < a
      · rw [decide_eq_true hab]
        show b = min a b
        omega
      · rw [decide_eq_false hab]
        show a = min a b
        omega
    rw [this]
    exact h h' tk x hold
theorem max_tup2 (hh : A.handled = none) (hT : s.heap.IsTuple l (intItems #[(a, t), (b, u)]))
    (h : ∀ h' tk x, (∀ c o, s.heap.get? c = some o → h'.get? c = some o) → Q (.int (max a b) x) { s with heap := h', toks := tk }) : wpAny (model prog w) A (call (.builtin "max") [.ref l]) Q E s := by
  have hl : l < s.heap.objs.size := by obtain ⟨o, e, _⟩ := hT; exact Heap.lt_size e
  refine call_max_walk (wpAny_pyIter_tuple hT ?_)
  refine ⟨_, [_, l], [_], _, _, _, _, rfl, Walks.tuple (A := A.in1) hh _ l (Nat.ne_of_lt hl) (intItems #[(a, t), (b, u)]),
    ⟨⟨_, Heap.get?_push_size _ rfl, rfl, rfl⟩, hT.push _⟩, fun c hc => ?_, by simp [intItems], CmpOf.ints_gt (numAt #[(a, t), (b, u)]) (fun _ _ => intItems_at), fun v h' tk hP hk => ?_⟩
  · show c < (s.heap.push _).objs.size
    rw [Heap.size_push]
    rcases List.mem_cons.mp hc with rfl | hc
    · exact Nat.lt_succ_self _
    · rcases List.mem_cons.mp hc with rfl | hc
      · exact Nat.lt_succ_of_lt hl
      · cases hc
  · have hold : ∀ c o, s.heap.get? c = some o → h'.get? c = some o := fun c o e => by
      refine hk c o (fun hm => ?_) (Heap.get?_push_of_some _ e)
      have z := List.mem_singleton.mp hm
      have := Heap.lt_size e; rw [z] at this; exact Nat.lt_irrefl _ this
    obtain ⟨x, rfl⟩ := intItems_at hP
    have : numAt #[(a, t), (b, u)] (argBest (fun i j => decide (numAt #[(a, t), (b, u)] i > numAt #[(a, t), (b, u)] j)) ((intItems #[(a, t), (b, u)]).size - 1)) = max a b := by
      rw [show (intItems #[(a, t), (b, u)]).size - 1 = 1 by simp [intItems]]
      show numAt #[(a, t), (b, u)] (if decide (b > a) = true then 1 else 0) = max a b
      by_cases hab : b > a
      · rw [decide_eq_true hab]
        show b = max a b
        omega
      · rw [decide_eq_false hab]
        show a = max a b
        omega
    rw [this]
    exact h h' tk x hold
end
section
variable {X : Cx} {K : PySem.W.Frag}
theorem tup2_of {pins : List (Addr × Obj)} {σ : L2.St} {H : Hp} {s : Shared} (I : Inv X pins σ H s) {l : Addr} {a b : Int} (h : SqT X.K H l [.int a, .int b]) : ∃ t u, s.heap.IsTuple l (intItems #[(a, t), (b, u)]) := by
  obtain ⟨its, rv, p, _⟩ := I.tuple h
  obtain ⟨t, u, rfl⟩ := Vals.int2 rv
  refine ⟨t, u, ?_⟩
  rw [show intItems #[(a, t), (b, u)] = #[.int a t, .int b u] by simp [intItems]]
  exact p
theorem cr_minT (hc : X.calm = true) (hK : X.K = K := by rfl) : CallR X (.builtin "min") (fun vs H Q => ∃ (l : Addr) (a b : Int), vs = [V.ref l] ∧ SqT K H l [.int a, .int b] ∧ Q (.int (min a b)) H) := by
  subst hK
  intro pins s σ H vs us Q I r h
  obtain ⟨l, a, b, rfl, hs, q⟩ := h
  obtain ⟨t, u, p⟩ := tup2_of I hs
  rw [Vals.ref1 r]
  exact min_tup2 (I.ok.hd hc) p fun h' tk x hk => ⟨.int _, H, I.kept hk, ⟨_, rfl⟩, q⟩
theorem cr_maxT (hc : X.calm = true) (hK : X.K = K := by rfl) : CallR X (.builtin "max") (fun vs H Q => ∃ (l : Addr) (a b : Int), vs = [V.ref l] ∧ SqT K H l [.int a, .int b] ∧ Q (.int (max a b)) H) := by
  subst hK
  intro pins s σ H vs us Q I r h
  obtain ⟨l, a, b, rfl, hs, q⟩ := h
  obtain ⟨t, u, p⟩ := tup2_of I hs
  rw [Vals.ref1 r]
  exact max_tup2 (I.ok.hd hc) p fun h' tk x hk => ⟨.int _, H, I.kept hk, ⟨_, rfl⟩, q⟩
/-! ### tuple(list), the object told; dict(that tuple of pairs) -/
/-- a tuple without a dict of its own -/
def PlainT (H : Hp) (a : Addr) (xs : List V) : Prop := ∃ o : Obj, o.dict = none ∧ H a = some (.frz o (.tup xs))
theorem PlainT.tt {H : Hp} {a : Addr} {xs : List V} (h : PlainT H a xs) : TT K H a xs := by
  obtain ⟨o, _, h⟩ := h
  exact .inl (.inr ⟨o, h⟩)
theorem PlainT.mono {H H' : Hp} {a : Addr} {xs : List V} (t : Tup H H') (h : PlainT H a xs) : PlainT H' a xs := by
  obtain ⟨o, d, h⟩ := h
  exact ⟨o, d, t.f a o _ h⟩
theorem call_tupleN (hK : X.K = K := by rfl) : CallR X (.type "tuple") (fun xs H Q => ∃ p ys, xs = [.ref p] ∧ SqL K H p ys ∧ ∀ (l : Addr) (o : Obj), o.dict = none → H l = none → Q (.ref l) (upd H l (.frz o (.tup ys)))) := by
  subst hK
  intro pins s σ H xs us Q I r h
  obtain ⟨p, ys, rfl, hq, q⟩ := h
  obtain ⟨u, rfl, rx⟩ := vals1 r
  cases rx
  obtain ⟨its, r', pl, hz⟩ := I.list hq
  have hlen := r'.length
  refine call_tuple_list pl.isList (fun h' kp => ?_) (by simp only [List.size_toArray] <;> omega)
  have I1 : Inv X pins σ H { s with heap := h' } := I.kept (t' := s.toks) kp
  have I2 : Inv X pins σ (upd H h'.objs.size (.frz { cls := .type "tuple", data := .seq its.toArray } (.tup ys))) { s with heap := h'.push { cls := .type "tuple", data := .seq its.toArray } } :=
    I1.laid (t' := s.toks) (fun b o e => Heap.get?_push_of_some _ e) (Nat.le_refl _) (show ObjOk X.prog X.w _ _ _ (.frz _ (.tup ys)) from ⟨Heap.get?_push_size _ rfl, hz, its, r', IsTup.new _ _⟩)
  exact ⟨.ref h'.objs.size, _, I2, rfl, q _ _ rfl (I1.hok.fresh (Nat.le_refl _))⟩
theorem pairs_vs {h : Heap} : ∀ {ps : List Addr} {prs : List (Key × Value)}, prs.length = ps.length → (∀ (j : Nat) (q : Key × Value), prs[j]? = some q → ∃ (b : Addr) (u : Value), ps[j]? = some b ∧ IsTup h b #[u, q.2] ∧ keyIs q.1 u = true) →
    ∃ vs : List (Value × Value), vs.length = ps.length ∧ ∀ (j : Nat) (k v : Value), vs[j]? = some (k, v) → ∃ (b : Addr) (key : Key), ps[j]? = some b ∧ prs[j]? = some (key, v) ∧ IsTup h b #[k, v] ∧ keyIs key k = true
  | [], _, _, _ => ⟨[], rfl, fun j k v e => by simp at e⟩
  | b :: ps, [], hl, _ => by simp at hl
  | b :: ps, pr :: prs, hl, hpr => by
    obtain ⟨b', u, e1, e2, e3⟩ := hpr 0 pr rfl
    simp at e1
    subst e1
    obtain ⟨vs, h1, h2⟩ := pairs_vs (ps := ps) (prs := prs) (by simpa using hl) (fun j q' e => by simpa using hpr (j + 1) q' (by simpa using e))
    refine ⟨(u, pr.2) :: vs, by simp [h1], fun j k v e => ?_⟩
    cases j with
    | zero =>
      simp at e
      obtain ⟨rfl, rfl⟩ := e
      exact ⟨b, pr.1, rfl, rfl, e2, e3⟩
    | succ j =>
      obtain ⟨c, key, f1, f2, f3, f4⟩ := h2 j k v (by simpa using e)
      exact ⟨c, key, by simpa using f1, by simpa using f2, f3, f4⟩
theorem call_dictT (hcalm : X.calm = true) (hK : X.K = K := by rfl) : CallR X (.type "dict") (fun xs H Q => ∃ (a : Addr) (ps : List Addr) (kvs : List (Key × V)), xs = [.ref a] ∧ PlainT H a (ps.map V.ref) ∧ Paired (fun p kv => SqT K H p [kV kv.1, kv.2]) ps kvs ∧
    ∀ p, H p = none → Q (.ref p) (upd H p (.dK (mergeK [] kvs)))) := by
  subst hK
  intro pins s σ H xs us Q I r q
  obtain ⟨a, ps, kvs, ex, ⟨o, hdn, hq⟩, hp, q⟩ := q
  subst ex
  obtain ⟨u, eu, rx⟩ := vals1 r
  subst eu
  cases rx
  obtain ⟨ho, hz, its, rv, ⟨o', ho', hc, n, hdat⟩⟩ := (show ObjOk X.prog X.w H s.heap a (.frz o (.tup (ps.map V.ref))) from I.hok a _ hq)
  rw [ho] at ho'
  cases ho'
  have ei := refs_at rv
  subst ei
  rw [List.length_map] at hz
  obtain ⟨prs, rel, hl, hpr⟩ := pairs_of I hp
  -- the pairs' keys and values as they stand
  obtain ⟨vs, hvl, hvs⟩ := pairs_vs hl hpr
  refine PySem.call_dict_pairs (knd := mixKind X.prog X.w) (kvs := prs) (PairArg.tuple a (ps.map Value.ref).toArray (fun j => ps.getD j 0) vs) (I.ok.hd hcalm) ⟨⟨o, n, ho, hc, hdn, hdat⟩, by simp [hvl], fun j k v e => ?_⟩ ⟨by omega, fun i key v e => ?_⟩ (by omega) fun h' tk hd' hk => ?_
  · obtain ⟨b, key, e1, e2, e3, e4⟩ := hvs j k v e
    have eb : ps.getD j 0 = b := by rw [List.getD_eq_getElem?_getD, e1]; rfl
    refine ⟨by simp [e1], .inl ?_⟩
    show s.heap.IsTuple (ps.getD j 0) #[k, v]
    rw [eb]
    exact e3
  · obtain ⟨b, k, e1, e2, e3, e4⟩ := hvs i key v e
    exact ⟨k, e2, e4⟩
  · have hm : (s.heap.objs.size == sysModules) = false := beq_eq_false_iff_ne.mpr (Nat.ne_of_gt I.big)
    have hlen : (mergeK [] kvs).length ≤ sizeLine := by
      refine Nat.le_trans (length_mergeK kvs []) ?_
      rw [List.length_nil, Nat.zero_add, rel.length, hl]
      exact hz
    exact ⟨.ref s.heap.objs.size, upd H s.heap.objs.size (.dK (mergeK [] kvs)), I.laid (t' := tk) (fun b o e => hk b o (by simp) e) (Nat.le_refl _) (show ObjOk X.prog X.w _ _ _ (.dK (mergeK [] kvs)) from ⟨hlen, hm, merged [] prs, KV.merge rel .nil, hd'⟩), rfl, q _ (I.hok.fresh (Nat.le_refl _))⟩
/-! ### rules, the written part told -/
theorem ix_tupK (hK : X.K = K := by rfl) : IxR X (rIxT K) := by subst hK; exact ix_tup
theorem ix_listK (hK : X.K = K := by rfl) : IxR X (rIxL K) := by subst hK; exact ix_list
theorem op_in_seqK (hK : X.K = K := by rfl) : OpR X (compareOp .In) (rIn K false) := by subst hK; exact op_in_seq
theorem op_notIn_seqK (hK : X.K = K := by rfl) : OpR X (compareOp .NotIn) (rIn K true) := by subst hK; exact op_notIn_seq
theorem op_eqDK (hu : X.A.units + 64 < cLine) (hK : X.K = K := by rfl) : OpR X (compareOp .Eq) (rEqD K) := by subst hK; exact op_eqD hu
theorem op_neDK (hu : X.A.units + 64 < cLine) (hK : X.K = K := by rfl) : OpR X (compareOp .NotEq) (rNeD K) := by subst hK; exact op_neD hu
theorem op_catTK (hK : X.K = K := by rfl) : OpR X (binaryOp .Add) (rCatT K) := by subst hK; exact op_catT
theorem call_len_seqK (hK : X.K = K := by rfl) : CallR X (.builtin "len") (fun xs H Q => ∃ p ys, xs = [.ref p] ∧ (SqL K H p ys ∨ SqT K H p ys) ∧ Q (.int ys.length) H) := by subst hK; exact call_len_seq
theorem call_list_ofK (hK : X.K = K := by rfl) : CallR X (.type "list") (fun xs H Q => ∃ p ys, xs = [.ref p] ∧ (SqL K H p ys ∨ SqT K H p ys) ∧ ∀ l, H l = none → Q (.ref l) (upd H l (.lst ys))) := by subst hK; exact call_list_of
theorem call_tuple_ofK (hK : X.K = K := by rfl) : CallR X (.type "tuple") (fun xs H Q => ∃ p ys, xs = [.ref p] ∧ ((SqL K H p ys ∧ ∀ l, H l = none → Q (.ref l) (upd H l (.tup ys))) ∨ (SqT K H p ys ∧ Q (.ref p) H))) := by subst hK; exact call_tuple_of
theorem cr_allK (hc : X.calm = true) (hK : X.K = K := by rfl) : CallR X (.builtin "all") (rAll K) := by subst hK; exact cr_all hc
theorem cr_sortedK (hK : X.K = K := by rfl) : CallR X (.builtin "sorted") (rSorted K) := by subst hK; exact cr_sorted
theorem call_isiK1 (hK : X.K = K := by rfl) : CallR X (.builtin "isinstance") (rIsi K) := by subst hK; exact call_isi
theorem call_isiTK (hK : X.K = K := by rfl) : CallR X (.builtin "isinstance") (rIsiT K) := by subst hK; exact call_isiT
theorem sl_listK (hK : X.K = K := by rfl) : SlR X (rSlL K) := by subst hK; exact sl_list
theorem pi_listK {tg l : Expr} {tl : TE} (hl : PE X l tl) (hK : X.K = K := by rfl) : PI X tg l (iList K tl) := by subst hK; exact pi_list hl
theorem pi_tupK {tg l : Expr} {tl : TE} (hl : PE X l tl) (hK : X.K = K := by rfl) : PI X tg l (iTup K tl) := by subst hK; exact pi_tup hl
end
/-- the built-in names that the program uses are no names of its own -/
structure Bt (mg : Str → Option Value) : Prop where
  abs : mg "abs" = none
  all : mg "all" = none
  bool : mg "bool" = none
  dict : mg "dict" = none
  enumerate : mg "enumerate" = none
  int : mg "int" = none
  isinstance : mg "isinstance" = none
  len : mg "len" = none
  list : mg "list" = none
  max : mg "max" = none
  min : mg "min" = none
  range : mg "range" = none
  reversed : mg "reversed" = none
  set : mg "set" = none
  sorted : mg "sorted" = none
  tuple : mg "tuple" = none
  zip : mg "zip" = none
theorem bo_abs : bootBuiltins "abs" = some (.builtin "abs") := by decide +kernel
theorem bo_all : bootBuiltins "all" = some (.builtin "all") := by decide +kernel
theorem bo_bool : bootBuiltins "bool" = some (.type "bool") := by decide +kernel
theorem bo_dict : bootBuiltins "dict" = some (.type "dict") := by decide +kernel
theorem bo_int : bootBuiltins "int" = some (.type "int") := by decide +kernel
theorem bo_isinstance : bootBuiltins "isinstance" = some (.builtin "isinstance") := by decide +kernel
theorem bo_len : bootBuiltins "len" = some (.builtin "len") := by decide +kernel
theorem bo_list : bootBuiltins "list" = some (.type "list") := by decide +kernel
theorem bo_max : bootBuiltins "max" = some (.builtin "max") := by decide +kernel
theorem bo_min : bootBuiltins "min" = some (.builtin "min") := by decide +kernel
theorem bo_set : bootBuiltins "set" = some (.type "set") := by decide +kernel
theorem bo_sorted : bootBuiltins "sorted" = some (.builtin "sorted") := by decide +kernel
theorem bo_tuple : bootBuiltins "tuple" = some (.type "tuple") := by decide +kernel
end FW
end

/-! ## W0e -/
section
set_option Elab.async false
set_option linter.all false
set_option maxRecDepth 100000
set_option maxHeartbeats 4000000
namespace FW
open PySem PySem.Spec PyProof.Rows L2 FF
/-! ### a list comprehension whose element raises -/
theorem sameBut_traced {h h2 B B2 : Heap} {a C : Addr} {Z : Obj → Prop} {fl : Value} {m : Str → Option Value} (t : HandSPX.TracedZ h B a Z fl) (hn : h.Ns C m) (sb : Heap.SameBut C h h2) (hB : ∀ b, B.get? b = none → B2.get? b = none) : HandSPX.TracedZ h2 B2 a Z fl := by
  obtain ⟨oe, vs, T, oT, ts, he, hz, hd, h1, hnT, hTe, hT, hdT, h3⟩ := t
  obtain ⟨oC, es, ep, hoC, hdC, _⟩ := hn
  have na : a ≠ C := fun z => by rw [z, hoC] at he; cases he; rw [hdC] at hd; cases hd
  have nT : T ≠ C := fun z => by rw [z, hoC] at hT; cases hT; rw [hdC] at hdT; cases hdT
  exact ⟨oe, vs, T, oT, ts, (sb.2 a na).trans he, hz, hd, h1, hB T hnT, hTe, (sb.2 T nT).trans hT, hdT, h3⟩
section
variable {X : Cx} {W : WX} {E : XK}
theorem blk_out {pins pb : List (Addr × Obj)} {σ σb : L2.St} {H3 Hb : Hp} {s3 sb : Shared} {scope : Scope} {ce : Env} {fp : List Addr} {xe : Value → Shared → Prop}
    (hst : X.stack = X.env :: X.outer) (hfr : X.env.frame = some X.env.locals) (tk : Takes X W) (hW : ∀ cls d H, E cls d H → W cls d σ H)
    (I3 : Inv X pins σ H3 s3) (f3 : ∀ b ∈ fp, FpOk X pins H3 b) (hC : s3.heap.objs.size ≤ ce.locals) (hcf : ce.frame = X.env.frame)
    (Ib : Inv ((X.blk s3 H3 scope ce fp).wish xe) pb σb Hb sb) {u : Value} {s' : Shared} (c : L2.CX X.prog X.w X.stack Hb sb E u s') :
    notedBy (model X.prog X.w) X.A ce (CompFails (model X.prog X.w) X.A X.xe ce) u s' := by
  have fl0 : ∃ a0 B0 cls0 d0, u = .ref a0 ∧ HandSPX.FlyingZ B0 X.stack a0 (Zc cls0 d0) s'.heap := by
    obtain ⟨a, B, H', cls, d, e, fl, _⟩ := c
    exact ⟨a, B, cls, d, e, fl⟩
  obtain ⟨a, B, sI, pI, σI, HI, cls, d, rfl, J', nb, up, sky, na, os, ag, w⟩ := XE.of_call (W := fun cls d _ H => E cls d H) Ib (fun _ _ _ h => h) c
  obtain ⟨a0, B0, cls0, d0, e0, fl0⟩ := fl0
  cases e0
  obtain ⟨_, _, _, oe0, vs0, T0, oT0, ts0, he0, _, hd0, h10, _, _, hT0, hdT0, h30⟩ := fl0
  have fl : HandSPX.FlyingZ B X.stack a (Zc cls d) s'.heap := by
    rcases sky with ⟨_, _, _, oe, vs, he, _, hd, h1⟩ | fl | ⟨_, _, _, oe, vs, T, oT, ts, he, _, hd, h1, _, _, hT, hdT, h3⟩
    · rw [he0] at he; cases he; rw [hd0] at hd; cases hd; rw [h10] at h1; cases h1
    · exact fl
    · rw [he0] at he; cases he; rw [hd0] at hd; cases hd; rw [h10] at h1; cases h1
      rw [hT0] at hT; cases hT; rw [hdT0] at hdT; cases hdT; rw [h30] at h3; cases h3
  have f3' : ∀ b ∈ fp, (b ∈ X.ex ∨ X.s_0.heap.objs.size ≤ b) ∧ b ≠ X.env.locals ∧ (∀ x c, X.env.cells.lookup x = some c → c ≠ b) ∧ ∀ p ∈ X.pn ++ pins, p.1 ≠ b := fun b hb => ⟨(f3 b hb).2.2.2.1, (f3 b hb).2.1, (f3 b hb).2.2.2.2.1, (f3 b hb).2.2.2.2.2⟩
  have J : Inv X pins σ HI sI := I3.call' (ch := fp) J'.os J'.base J'.hok J'.bare f3'
  have nC : HI ce.locals = none := J'.free
  have fC := I3.fpOk (H' := HI) hC nC
  obtain ⟨m, hn, _⟩ := J'.loc
  have hn : sI.heap.Ns ce.locals m := hn
  have hfrA : X.A.frames = some (X.env :: X.outer) := by rw [J.ok.frames, hst]
  have nst : ce.locals ∉ frs X.stack := fun hm => by
    rw [hst] at hm
    rcases List.mem_filterMap.mp hm with ⟨e, he, q⟩
    rcases List.mem_cons.mp he with rfl | he
    · rw [hfr] at q; exact fC.2.1 (Option.some.inj q).symm
    · exact fC.2.2.1 (List.mem_filterMap.mpr ⟨e, he, q⟩)
  show wpAny _ _ (noteFrame (.ref a) ce) _ _ s'
  rw [noteFrame_env _ hcf]
  rw [hst] at fl
  refine HandSPX.looks_onZ Zc.steady hfrA hfr fl fun h1 hh up1 => ?_
  have hn1 : h1.Ns ce.locals m := up1.ns (up.ns hn)
  refine ⟨m, hn1, fun h2 m2 hn2 sb2 => ?_⟩
  -- the ground without the block
  obtain ⟨B2, b1, b2⟩ := restrict B fun b => decide (b ≠ ce.locals)
  obtain ⟨G, g1, g2⟩ := restrict sI.heap fun b => decide (b ≠ ce.locals)
  have bk : ∀ b, b ≠ ce.locals → B2.get? b = B.get? b := fun b hb => b1 b (decide_eq_true hb)
  have bn : B2.get? ce.locals = none := b2 _ (by simp)
  have gk : ∀ b, b ≠ ce.locals → G.get? b = sI.heap.get? b := fun b hb => g1 b (decide_eq_true hb)
  have gn : G.get? ce.locals = none := g2 _ (by simp)
  have bnone : ∀ b, B.get? b = none → B2.get? b = none := fun b e => by
    by_cases hb : b = ce.locals
    · rw [hb]; exact bn
    · rw [bk b hb]; exact e
  obtain ⟨f1, f2, f4, f5⟩ := hh
  have st2 : B2.StaysIn h2 := fun b o e => by
    by_cases hb : b = ce.locals
    · rw [hb, bn] at e; cases e
    · rw [bk b hb] at e
      exact (sb2.2 b hb).trans (f1 b o e)
  have ff2 : h2.FunFrames B2 (X.env :: X.outer) := funFrames_none (Heap.FunFrames.sameBut sb2 hn2 f4) fun L hL => bnone L (f4.mem hL).1
  have tr2 := sameBut_traced (B2 := B2) f5 hn1 sb2 bnone
  have J2 : Inv X pins σ HI { sI with heap := G } := J.turned (t' := sI.toks) (it := ce.locals) (fun b o hb e => (gk b hb).trans e) nC fC.2.1 fC.2.2.2.1 fC.2.2.2.2.1 fC.2.2.2.2.2
  have up2 : G.UpToSlots h2 := fun b o e hnf => by
    by_cases hb : b = ce.locals
    · rw [hb, gn] at e; cases e
    · rw [gk b hb] at e
      obtain ⟨sl, q⟩ := (up.trans up1) b o e hnf
      exact ⟨sl, (sb2.2 b hb).trans q⟩
  have hh2 : HandSPX.HeldZ B2 (X.env :: X.outer) a (Zc cls d) X.env.locals h2 := ⟨st2, bnone a f2, ff2, tr2⟩
  obtain ⟨oe, vs, T, oT, ts, he, hz, hd, h1', r⟩ := id tr2
  unfold PySem.passOn
  refine wpAny_bind (wpAny_field he hd h1' ?_)
  rw [if_neg (show ¬ ((Value.ref T == Value.none) = true) from by simp)]
  rw [hcf, hfr]
  refine wpAny_bind (HandSPX.setFlight_onZ (s := { s' with heap := h2 }) hh2 fun h3 hh3 up3 => wpAny_throw (tk _ _ ?_))
  refine ⟨a, B2, { sI with heap := G }, pins, σ, HI, cls, d, rfl, J2, fun b o e hb => ?_, up2.trans up3, ?_, na, os, ag, hW _ _ _ w⟩
  · by_cases hbC : b = ce.locals
    · rw [hbC] at e
      have e' : G.get? ce.locals = some o := e
      rw [gn] at e'; cases e'
    · have e' : G.get? b = some o := e
      rw [gk b hbC] at e'
      rw [bk b hbC]
      exact nb b o e' hb
  · refine .inr (.inr ?_)
    rw [hst]
    exact hh3
end

section
variable {X : Cx}
/-- [elt for target in iter if ..], the element may let out what E says -/
theorem lc_coreX {E : XK} {pins : List (Addr × Obj)} {s : Shared} {σ : L2.St} {H : Hp} {Q : VK} {elt tg iter : Expr} {ifs : List Expr} {scope : Scope} {own : List (Str × Nat)} {pos pos' : Pos} {wi : TI} {g : TG} {tt : L2.TT} {te : TE} {use : Option (Value → Sem Unit)} {Qf : Value → Shared → Prop} {W : WX}
    (hst : X.stack = X.env :: X.outer) (hfr : X.env.frame = some X.env.locals) (tk : Takes X W) (hW : ∀ cls d H, E cls d H → W cls d σ H)
    (hc : X.calm = true) (hN : X.N.Nodup) (I : Inv X pins σ H s) (hi : PI X tg iter wi) (ok : BlkOk X.N X.env.scope scope own)
    (hg : ∀ (s : Shared) (H : Hp) (C : Addr) (cl : List (Str × Addr)) (fp : List Addr), PG (X.blk s H scope (compEnvC scope cl C X.env) fp) tg g) (ht : ∀ (s : Shared) (H : Hp) (C : Addr) (cl : List (Str × Addr)) (fp : List Addr), PTs (X.blk s H scope (compEnvC scope cl C X.env) fp) ifs tt)
    (he : ∀ (s : Shared) (H : Hp) (C : Addr) (cl : List (Str × Addr)) (fp : List Addr) (xe : Value → Shared → Prop), Passes (L2.CX X.prog X.w) ((X.blk s H scope (compEnvC scope cl C X.env) fp).wish xe) E → PE ((X.blk s H scope (compEnvC scope cl C X.env) fp).wish xe) elt te) (hs : ∀ x, foldedSetIterable iter X.env x = pure x)
    (h : tLc wi g tt te (own.map (·.2)) σ H Q)
    (hRR : ∀ D C s' m H', Inv X pins σ H' s' → Q (.ref D) H' → s'.heap.Ns C m → FpOk X pins H' C → compPost (model X.prog X.w) X.A X.xe use Qf (.ref D) C (.ok .next) s') :
    wpAny (model X.prog X.w) X.A (comprehension (.ListComp elt [⟨tg, iter, ifs, 0⟩] scope pos) scope X.env pos' (newList []) false (eval iter X.env) use) Qf X.xe s := by
  have hfree : ∀ y ∈ scope.names, y.2 = .free → ∃ c, X.env.cells.lookup y.1 = some c := fun y hy e => by
    rcases ok.free y hy e with k | k
    · exact I.ok.has _ (.inl k)
    · exact I.ok.has _ (.inr k)
  refine comprehension_at (use := use) rfl hs (closure_ok hfree) ok.kind (fun y hy e => by rw [ok.uniq y hy, e])
    (thn (hi.run pins s σ H _ I h) fun xv s1 hx => thn hx fun itv s2 h2 => ?_)
  obtain ⟨it, fp, tn, J, H2, e, I2, T, st2, f2, q⟩ := h2
  subst e
  refine wpAny_newObj_type (newEnv_comp ?_) (by show 0 ≤ sizeLine; decide)
  generalize hD : s2.heap.objs.size = D
  have hDn : H2 D = none := I2.hok.fresh (Nat.le_of_eq hD)
  obtain ⟨W, ⟨m0, w0⟩, turn⟩ := q D hDn
  generalize hs3 : ({ s2 with heap := s2.heap.push { cls := .type "list", data := .seq ([] : List Value).toArray } } : Shared) = s3
  have I3 : Inv X pins σ (upd H2 D (.lst [])) s3 := by
    rw [← hs3]
    refine I2.laid (t' := s2.toks) (fun b o e => Heap.get?_push_of_some _ e) (Nat.le_of_eq hD) ⟨Nat.zero_le _, [], 0, .nil, ?_⟩
    rw [← hD]
    exact Heap.get?_push_size _ rfl
  have h3 : s3.heap = s2.heap.push { cls := .type "list", data := .seq ([] : List Value).toArray } := by rw [← hs3]
  have sz : ∀ b ∈ fp, b < s2.heap.objs.size := fun b hb => by
    obtain ⟨o, e, _⟩ := T.obj _ _ st2 b hb
    exact Heap.lt_size e
  have f3 : ∀ b ∈ fp, FpOk X pins (upd H2 D (.lst [])) b ∧ b < s3.heap.objs.size := fun b hb => by
    have hlt := sz b hb
    refine ⟨⟨?_, (f2 b hb).2⟩, by rw [h3, Heap.size_push]; exact Nat.lt_succ_of_lt hlt⟩
    rw [upd_ne (by rw [← hD]; exact Nat.ne_of_lt hlt)]
    exact (f2 b hb).1
  have st3 : tn 0 s3.heap := T.keep _ _ _ st2 fun b _ o e => by rw [h3]; exact Heap.get?_push_of_some _ e
  have I4 := block_start I3 ok hN f3
  have pg := hg s3 (upd H2 D (.lst [])) s3.heap.objs.size (cellsFrom (s3.heap.objs.size + 1) scope.names (cloFrom X.env.cells scope.names [])) fp
  have pt := ht s3 (upd H2 D (.lst [])) s3.heap.objs.size (cellsFrom (s3.heap.objs.size + 1) scope.names (cloFrom X.env.cells scope.names [])) fp
  have pe0 := he s3 (upd H2 D (.lst [])) s3.heap.objs.size (cellsFrom (s3.heap.objs.size + 1) scope.names (cloFrom X.env.cells scope.names [])) fp
  show codeAny _ _ (.compStart (.ListComp elt [⟨tg, iter, ifs, 0⟩] scope pos) 0 (.ref it) (.ref D) (compEnvC scope (cellsFrom (s3.heap.objs.size + 1) scope.names (cloFrom X.env.cells scope.names [])) s3.heap.objs.size X.env)) (compEnds (model X.prog X.w) X.A X.xe use Qf (.ref D) (compEnvC scope (cellsFrom (s3.heap.objs.size + 1) scope.names (cloFrom X.env.cells scope.names [])) s3.heap.objs.size X.env)) { s3 with heap := pushCells (s3.heap.push { cls := .type "dict", data := .dict #[] }) scope.names }
  have nfp : ∀ b ∈ fp, (upd H2 D (.lst [])) b = none := fun b hb => (f3 b hb).1.1
  generalize hce : compEnvC scope (cellsFrom (s3.heap.objs.size + 1) scope.names (cloFrom X.env.cells scope.names [])) s3.heap.objs.size X.env = ce at I4 pg pt pe0 ⊢
  have cL : ce.locals = s3.heap.objs.size := by subst hce; rfl
  have cF : ce.frame = X.env.frame := by subst hce; rfl
  generalize hH3 : upd H2 D (.lst []) = H3 at I3 I4 pg pt pe0 w0 nfp f3
  generalize hs4 : ({ s3 with heap := pushCells (s3.heap.push { cls := .type "dict", data := .dict #[] }) scope.names } : Shared) = s4 at I4 ⊢
  have outs := fun (xe : Value → Shared → Prop) (pb : List (Addr × Obj)) (σb : L2.St) (Hb : Hp) (sb : Shared) (u : Value) (s' : Shared) (Ib : Inv ((X.blk s3 H3 scope ce fp).wish xe) pb σb Hb sb) (c : L2.CX X.prog X.w X.stack Hb sb E u s') =>
    blk_out (σ := σ) hst hfr tk hW I3 (fun b hb => (f3 b hb).1) (Nat.le_of_eq cL.symm) cF Ib c
  have pe := pe0 (notedBy (model X.prog X.w) X.A ce fun e s' => compEnds (model X.prog X.w) X.A X.xe use Qf (.ref D) ce (.error e) s') (fun pb σb Hb sb u s' Ib c => by
    refine wpAny_mono (outs _ pb σb Hb sb u s' Ib c) (fun _ s'' z => ?_) (fun x s'' z => ?_) <;> (cases use <;> exact z))
  have st4 : tn 0 s4.heap := T.keep _ _ _ st3 fun b _ o e => by rw [← hs4]; exact pushCells_keeps _ _ _ _ (Heap.get?_push_of_some _ e)
  have stat : ∀ {σ' : L2.St} {H' : Hp} {s' : Shared}, Inv (X.blk s3 H3 scope ce fp) [] σ' H' s' → (∀ b ∈ fp, H' b = none) → ∀ b ∈ fp, FpOk (X.blk s3 H3 scope ce fp) [] H' b := fun {σ' H' s'} I' hn b hb =>
    ⟨hn b hb, (I'.ok.exf b hb).1, I'.ok.exfs b hb, .inl hb, fun x c e => (I'.ok.exf b hb).2 x c e, fun p hp => absurd (show p ∈ ([] : List (Addr × Obj)) ++ [] from hp) (by simp)⟩
  have loop : codeAny (model X.prog X.w) X.A (.compLoop (.ListComp elt [⟨tg, iter, ifs, 0⟩] scope pos) 0 (.ref it) (.ref D) ce) (compEnds (model X.prog X.w) X.A X.xe use Qf (.ref D) ce) s4 := by
    refine compLoop_any (fun n s' => ∃ i H', Inv (X.blk s3 H3 scope ce fp) [] (wipe σ (own.map (·.2))) H' s' ∧ tn i s'.heap ∧ (∀ b ∈ fp, H' b = none) ∧ W i n H') ?_ m0 ⟨0, H3, I4, st4, nfp, w0⟩
    rintro n s5 ⟨i, H5, I5, st5, n5, w5⟩
    rcases turn i n H5 w5 with ⟨stop, qq⟩ | ⟨go, Nx, hNx, step⟩
    · have td := T.done (X.blk s3 H3 scope ce fp) rfl rfl rfl hc i [] s5 _ H5 (fun _ _ => False) I5 (stat I5 n5) st5 stop
      refine thnF td fun r s6 ⟨hr, I6⟩ => ?_
      subst hr
      have I7 : Inv X pins σ H5 s6 := I3.call' (ch := fp) I6.os I6.base I6.hok I6.bare fun b hb => ⟨(f3 b hb).1.2.2.2.1, (f3 b hb).1.2.1, (f3 b hb).1.2.2.2.2.1, (f3 b hb).1.2.2.2.2.2⟩
      have nC : H5 s3.heap.objs.size = none := by
        have z : H5 ce.locals = none := I6.free
        rw [cL] at z
        exact z
      obtain ⟨m, hn, _⟩ := I6.loc
      have hn : s6.heap.Ns ce.locals m := hn
      rw [cL] at hn
      have z := hRR D s3.heap.objs.size s6 m H5 I7 qq hn (I3.fpOk (Nat.le_refl _) nC)
      rw [← cL] at z
      cases use <;> exact z
    · have ti := T.item (X.blk s3 H3 scope ce fp) rfl rfl rfl hc i [] s5 _ H5 (fun _ _ => False) I5 (stat I5 n5) st5 go
      refine thnF ti fun r s6 ⟨u, hr, h6⟩ => ?_
      subst hr
      refine thnF h6 fun _ s7 ⟨x, H7, I7, r7, y7, st7, n7⟩ => ?_
      have I7' := I7.pinned (stat I7 n7) (T.obj _ _ st7)
      refine thnF (pg.run _ s7 _ H7 x u _ I7' r7 (step x H7 y7)) fun _ s8 ⟨σ8, H8, I8, hw8, q8⟩ => ?_
      refine thnF (pt.run _ s8 σ8 H8 _ I8 q8) fun b s9 ⟨H9, I9, q9⟩ => ?_
      have fin : ∀ {s' : Shared} {H' : Hp}, Inv (X.blk s3 H3 scope ce fp) ([] ++ pinsAt fp s7.heap) σ8 H' s' → Nx H' → ∃ m, m < n ∧ ∃ i H', Inv (X.blk s3 H3 scope ce fp) [] (wipe σ (own.map (·.2))) H' s' ∧ tn i s'.heap ∧ (∀ b ∈ fp, H' b = none) ∧ W i m H' := fun {s' H'} I' nx => by
        obtain ⟨m', hm, w'⟩ := hNx H' nx
        have pin' : ∀ b ∈ fp, ∀ o, s7.heap.get? b = some o → s'.heap.get? b = some o ∧ H' b = none := fun b hb o e =>
          let z := I'.pin (b, o) (List.mem_append_right _ (List.mem_append_right _ (mem_pinsAt hb e)))
          ⟨z.1, z.2.1⟩
        have hl : (wipe σ (own.map (·.2))).length = σ8.length := by rw [← hw8, wipe_length]
        refine ⟨m', hm, i + 1, H', (I'.unpinned (pins := [])).weak hl (fun j v e => ?_), T.keep _ _ _ st7 fun b hb o e => (pin' b hb o e).1, fun b hb => ?_, w'⟩
        · rw [← hw8] at e
          exact (wipe_some e).1
        · obtain ⟨o, e, _⟩ := T.obj _ _ st7 b hb
          exact (pin' b hb o e).2
      cases b with
      | false =>
        simp only [Bool.false_eq_true, if_false] at q9 ⊢
        exact fin I9 q9
      | true =>
        simp only [if_true] at q9 ⊢
        refine wpAny_mono (pe.run _ s9 σ8 H9 _ (I9.wish _) q9) (fun z s10 ⟨yv, H10, I10, r10, acc, hD10, hz10, nx⟩ => ?_) (fun _ _ z => z)
        exact app_ok (X := X.blk s3 H3 scope ce fp) I10.unwish hD10 hz10 r10 fun s11 I11 => fin I11 nx
  exact codeAny_compStart_list loop (T.self X.A 0 _ _ _ st4 loop)
theorem pe_lcX {E : XK} {elt tg iter : Expr} {ifs : List Expr} {scope : Scope} {own : List (Str × Nat)} {pos : Pos} {wi : TI} {g : TG} {tt : L2.TT} {te : TE} {W : WX}
    (hst : X.stack = X.env :: X.outer) (hfr : X.env.frame = some X.env.locals) (tk : Takes X W) (hW : ∀ cls d σ H, E cls d H → W cls d σ H)
    (hc : X.calm = true) (hN : X.N.Nodup) (hi : PI X tg iter wi) (ok : BlkOk X.N X.env.scope scope own)
    (hg : ∀ (s : Shared) (H : Hp) (C : Addr) (cl : List (Str × Addr)) (fp : List Addr), PG (X.blk s H scope (compEnvC scope cl C X.env) fp) tg g) (ht : ∀ (s : Shared) (H : Hp) (C : Addr) (cl : List (Str × Addr)) (fp : List Addr), PTs (X.blk s H scope (compEnvC scope cl C X.env) fp) ifs tt)
    (he : ∀ (s : Shared) (H : Hp) (C : Addr) (cl : List (Str × Addr)) (fp : List Addr) (xe : Value → Shared → Prop), Passes (L2.CX X.prog X.w) ((X.blk s H scope (compEnvC scope cl C X.env) fp).wish xe) E → PE ((X.blk s H scope (compEnvC scope cl C X.env) fp).wish xe) elt te) (hs : ∀ x, foldedSetIterable iter X.env x = pure x := by intro _; rfl) :
    PE X (.ListComp elt [⟨tg, iter, ifs, 0⟩] scope pos) (tLc wi g tt te (own.map (·.2))) := by
  refine ⟨fun pins s σ H Q I h => ?_⟩
  rw [eval_ListComp]
  refine lc_coreX hst hfr tk (fun cls d H => hW cls d σ H) hc hN I hi ok hg ht he hs h fun D C s' m H' I' q hn f => ⟨m, hn, fun h'' sb => ?_⟩
  obtain ⟨f0, f1, f2, f3, f4, f5⟩ := f
  exact ⟨.ref D, H', I'.turned (t' := s'.toks) (fun b o hb e => (sb.2 b hb).trans e) f0 f1 f3 f4 f5, rfl, q⟩
end
end FW
end

/-! ## W0f -/
section
set_option Elab.async false
set_option linter.all false
set_option maxRecDepth 100000
set_option maxHeartbeats 4000000
namespace FW
open PySem PySem.Spec PyProof.Rows L2 FF
/-! ### FillError.__init__(self, ..): an own class's, which is ValueError's -/
section
variable {X : Cx} {e : Expr} {es : List Expr} {ta : TA} {p1 p2 pos : Pos} {F : Addr}
theorem pe_owninit {x : Str} {pl : Sem Bool} (hg : Gl X x) (hm : X.mg x = some (.ref F)) (ga : PySem.W.specialIn X.K (.ref F) "__getattribute__" = some (some (.builtin "type.__getattribute__"))) (rd : PySem.W.readsIn X.K F (.type "type") = true)
    (vF : PySem.W.findCls X.K (.ref F) (.type "type") "__init__" = some (.val (.builtin "ValueError.__init__"))) (ha : PA X (e :: es) ta) (hdb : (x == ("__debug__" : Str)) = false := by decide)
    (hc : eval (.Call (.Attribute (.Name x p1) "__init__" p2) (e :: es) [] pos) X.env = (do
      let ov ← eval (.Name x p1) X.env
      standAt p2.atName
      let (f, first) ← holding [ov] (getMethod ov "__init__" pl)
      callWith pos f first (backTo pos (starEach (e :: es) X.env)) (backToKw pos (keywordEach [] X.env))) := by rfl)
    (he : starEach (e :: es) X.env = (false, eval e X.env) :: starEach es X.env := by rfl) (hpl : (backTo pos (starEach es X.env)).any (·.1) = false := by rfl) :
    PE X (.Call (.Attribute (.Name x p1) "__init__" p2) (e :: es) [] pos) (tVeI X.K ta) := by
  refine ⟨fun pins s σ H Q I h => ?_⟩
  refine PySem.W.methodCall_KW (ld_glob I hg hm ?_ hdb) hc
  refine PySem.W.method_cls I.kIn ga (PySem.W.cls_value I.kIn rd vF (by decide +kernel) ?_)
  show wpAny _ _ (callWith pos (Value.builtin "ValueError.__init__") [] (backTo pos (starEach (e :: es) X.env)) []) _ _ _
  refine PyProof.Rows.callWith_method1 (thn (ha.run pos pins _ σ H _ (I.tok _) h) fun us s1 ⟨vs, H1, I1, r1, a, C, ws, ev, hl, T, ea, q⟩ => ?_) he hpl
  subst ev
  cases r1 with
  | @cons _ u0 _ ur ra rw' =>
    obtain rfl : u0 = Value.ref a := ra
    have hlen : ur.length ≤ sizeLine := by
      rw [← Paired.length rw', sizeLine_eq]
      omega
    exact oinit_ok T I1 ea hlen fun s' J => ⟨.non, H1, J, rfl, q⟩
end
/-- what the top has left of the class NoPivot -/
structure NoPv (K : PySem.W.Frag) (mg : Str → Option Value) (C F fI : Addr) (fd : FuncData) : Prop where
  gC : mg "NoPivot" = some (.ref C)
  gF : mg "FillError" = some (.ref F)
  ox : OexC K C
  noP : PySem.W.findIn K (.ref C) "place" = some none
  iC : PySem.W.findIn K (.ref C) "__init__" = some (some (.ref fI))
  tI : PySem.W.typeIn K (.ref fI) = some (.type "function")
  ga : PySem.W.specialIn K (.ref F) "__getattribute__" = some (some (.builtin "type.__getattribute__"))
  rd : PySem.W.readsIn K F (.type "type") = true
  vF : PySem.W.findCls K (.ref F) (.type "type") "__init__" = some (.val (.builtin "ValueError.__init__"))
  te : PySem.W.exmOne K (.ref C) (.ref C) = some true
  fn : Fun K "__init__" "NoPivot.__init__" (inClass (topS 6) 0) fI fd
theorem exm_self {K : PySem.W.Frag} {S : Addr} (h1 : PySem.W.subIn K (.ref S) (.type "BaseException") = some true) (h2 : PySem.W.isClsIn K S = true) (h3 : PySem.W.typeIn K (.ref S) = some (.type "type")) (h4 : PySem.W.subIn K (.ref S) (.ref S) = some true) :
    PySem.W.exmOne K (.ref S) (.ref S) = some true := by
  have e1 : (PySem.W.subIn K (.ref S) (.type "BaseException") == some true) = true := by rw [h1] <;> rfl
  have e2 : ((PySem.W.clsIn K S).isSome && PySem.W.typeIn K (.ref S) == some (.type "type")) = true := by
    have h2' : (PySem.W.clsIn K S).isSome = true := h2
    rw [h2', h3] <;> rfl
  show (if (PySem.W.subIn K (.ref S) (.type "BaseException") == some true) = true then (if ((PySem.W.clsIn K S).isSome && PySem.W.typeIn K (.ref S) == some (.type "type")) = true then PySem.W.subIn K (.ref S) (.ref S) else none) else none) = some true
  rw [if_pos e1, if_pos e2]
  exact h4
theorem sq_mod {K : PySem.W.Frag} {H : Hp} {a : Addr} {c d : Int} {t u n : Nat} {dd : Option Addr} {sl : Array (Option Value)} (l : K.lookup a = some { cls := .type "tuple", dict := dd, data := .seq #[.int c t, .int d u] n, slots := sl }) : SqT K H a [.int c, .int d] :=
  .inr ⟨_, _, _, l, rfl, rfl, (by show 2 ≤ sizeLine; decide), .cons ⟨t, rfl⟩ (.cons ⟨u, rfl⟩ .nil)⟩
structure Tops (K : PySem.W.Frag) (mg : Str → Option Value) : Prop where
  B : Bt mg
  d_is_whole : Df K mg "is_whole" (topS 10)
  d_shared : Df K mg "shared" (topS 11)
  d_is_number : Df K mg "is_number" (topS 12)
  d_number_of : Df K mg "number_of" (topS 13)
  d_plus : Df K mg "plus" (topS 14)
  d_minus : Df K mg "minus" (topS 15)
  d_times : Df K mg "times" (topS 16)
  d_over : Df K mg "over" (topS 17)
  d_is_place : Df K mg "is_place" (topS 20)
  d_is_count : Df K mg "is_count" (topS 21)
  d_is_tie : Df K mg "is_tie" (topS 22)
  d_web_of : Df K mg "web_of" (topS 23)
  d_is_order : Df K mg "is_order" (topS 24)
  d_stands_below : Df K mg "stands_below" (topS 27)
  d_is_part : Df K mg "is_part" (topS 28)
  d_is_sheet_row : Df K mg "is_sheet_row" (topS 29)
  d_is_sheet : Df K mg "is_sheet" (topS 30)
  d_sheet_of : Df K mg "sheet_of" (topS 31)
  d_web_of_sheet : Df K mg "web_of_sheet" (topS 32)
  d_take_away : Df K mg "take_away" (topS 34)
  d_step : Df K mg "step" (topS 35)
  d_struck : Df K mg "struck" (topS 36)
  d_put_back : Df K mg "put_back" (topS 37)
  d_solved : Df K mg "solved" (topS 38)
  d_law_pen : Df K mg "_law_pen" (topS 40)
  d_law_draw : Df K mg "_law_draw" (topS 41)
  d_law_lowest : Df K mg "_law_lowest" (topS 42)
  d_law_same : Df K mg "_law_same" (topS 43)
  d_law_number : Df K mg "_law_number" (topS 44)
  d_law_order : Df K mg "_law_order" (topS 45)
  d_law_rows : Df K mg "_law_rows" (topS 46)
  d_law_plus : Df K mg "_law_plus" (topS 47)
  d_law_times : Df K mg "_law_times" (topS 48)
  d_law_near : Df K mg "_law_near" (topS 49)
  d_law_later : Df K mg "_law_later" (topS 50)
  d_law_above : Df K mg "_law_above" (topS 51)
  d_law_ties_of : Df K mg "_law_ties_of" (topS 52)
  d_law_whole : Df K mg "_law_whole" (topS 53)
  d_law_is_number : Df K mg "_law_is_number" (topS 54)
  d_law_are_parts : Df K mg "_law_are_parts" (topS 55)
  d_law_is_work : Df K mg "_law_is_work" (topS 56)
  d_law_multiplied : Df K mg "_law_multiplied" (topS 57)
  d_law_above_all : Df K mg "_law_above_all" (topS 58)
  d_law_keeping : Df K mg "_law_keeping" (topS 59)
  d_law_struck : Df K mg "_law_struck" (topS 60)
  d_law_comes : Df K mg "_law_comes" (topS 61)
  d_law_order_right : Df K mg "_law_order_right" (topS 62)
  d_law_right : Df K mg "_law_right" (topS 63)
  d_law : Df K mg "law" (topS 64)
  v_NOUGHT : ∃ a, mg "NOUGHT" = some (.ref a) ∧ ∀ H, SqT K H a [.int 0, .int 1]
  v_ONE : ∃ a, mg "ONE" = some (.ref a) ∧ ∀ H, SqT K H a [.int 1, .int 1]
  v_MOST_PLACES_webs : ∃ t, mg "MOST_PLACES_webs" = some (.int 12 t)
  v_MOST_PLACES_sheets : ∃ t, mg "MOST_PLACES_sheets" = some (.int 12 t)
  np : ∃ C F fI fd, NoPv K mg C F fI fd
theorem tops_mk {K : PySem.W.Frag} {h : Heap} {mg : Str → Option Value} (X : K.In h) (G : h.Ns mainGlobals mg)
    {f10 : Addr} {od10 an10 : Option Addr} {sl10 : Array (Option Value)} {oc10 kV10 dc10 pm10 cd10 ct10 : Value}
    {f11 : Addr} {od11 an11 : Option Addr} {sl11 : Array (Option Value)} {oc11 kV11 dc11 pm11 cd11 ct11 : Value}
    {f12 : Addr} {od12 an12 : Option Addr} {sl12 : Array (Option Value)} {oc12 kV12 dc12 pm12 cd12 ct12 : Value}
    {f13 : Addr} {od13 an13 : Option Addr} {sl13 : Array (Option Value)} {oc13 kV13 dc13 pm13 cd13 ct13 : Value}
    {f14 : Addr} {od14 an14 : Option Addr} {sl14 : Array (Option Value)} {oc14 kV14 dc14 pm14 cd14 ct14 : Value}
    {f15 : Addr} {od15 an15 : Option Addr} {sl15 : Array (Option Value)} {oc15 kV15 dc15 pm15 cd15 ct15 : Value}
    {f16 : Addr} {od16 an16 : Option Addr} {sl16 : Array (Option Value)} {oc16 kV16 dc16 pm16 cd16 ct16 : Value}
    {f17 : Addr} {od17 an17 : Option Addr} {sl17 : Array (Option Value)} {oc17 kV17 dc17 pm17 cd17 ct17 : Value}
    {f20 : Addr} {od20 an20 : Option Addr} {sl20 : Array (Option Value)} {oc20 kV20 dc20 pm20 cd20 ct20 : Value}
    {f21 : Addr} {od21 an21 : Option Addr} {sl21 : Array (Option Value)} {oc21 kV21 dc21 pm21 cd21 ct21 : Value}
    {f22 : Addr} {od22 an22 : Option Addr} {sl22 : Array (Option Value)} {oc22 kV22 dc22 pm22 cd22 ct22 : Value}
    {f23 : Addr} {od23 an23 : Option Addr} {sl23 : Array (Option Value)} {oc23 kV23 dc23 pm23 cd23 ct23 : Value}
    {f24 : Addr} {od24 an24 : Option Addr} {sl24 : Array (Option Value)} {oc24 kV24 dc24 pm24 cd24 ct24 : Value}
    {f27 : Addr} {od27 an27 : Option Addr} {sl27 : Array (Option Value)} {oc27 kV27 dc27 pm27 cd27 ct27 : Value}
    {f28 : Addr} {od28 an28 : Option Addr} {sl28 : Array (Option Value)} {oc28 kV28 dc28 pm28 cd28 ct28 : Value}
    {f29 : Addr} {od29 an29 : Option Addr} {sl29 : Array (Option Value)} {oc29 kV29 dc29 pm29 cd29 ct29 : Value}
    {f30 : Addr} {od30 an30 : Option Addr} {sl30 : Array (Option Value)} {oc30 kV30 dc30 pm30 cd30 ct30 : Value}
    {f31 : Addr} {od31 an31 : Option Addr} {sl31 : Array (Option Value)} {oc31 kV31 dc31 pm31 cd31 ct31 : Value}
    {f32 : Addr} {od32 an32 : Option Addr} {sl32 : Array (Option Value)} {oc32 kV32 dc32 pm32 cd32 ct32 : Value}
    {f34 : Addr} {od34 an34 : Option Addr} {sl34 : Array (Option Value)} {oc34 kV34 dc34 pm34 cd34 ct34 : Value}
    {f35 : Addr} {od35 an35 : Option Addr} {sl35 : Array (Option Value)} {oc35 kV35 dc35 pm35 cd35 ct35 : Value}
    {f36 : Addr} {od36 an36 : Option Addr} {sl36 : Array (Option Value)} {oc36 kV36 dc36 pm36 cd36 ct36 : Value}
    {f37 : Addr} {od37 an37 : Option Addr} {sl37 : Array (Option Value)} {oc37 kV37 dc37 pm37 cd37 ct37 : Value}
    {f38 : Addr} {od38 an38 : Option Addr} {sl38 : Array (Option Value)} {oc38 kV38 dc38 pm38 cd38 ct38 : Value}
    {f40 : Addr} {od40 an40 : Option Addr} {sl40 : Array (Option Value)} {oc40 kV40 dc40 pm40 cd40 ct40 : Value}
    {f41 : Addr} {od41 an41 : Option Addr} {sl41 : Array (Option Value)} {oc41 kV41 dc41 pm41 cd41 ct41 : Value}
    {f42 : Addr} {od42 an42 : Option Addr} {sl42 : Array (Option Value)} {oc42 kV42 dc42 pm42 cd42 ct42 : Value}
    {f43 : Addr} {od43 an43 : Option Addr} {sl43 : Array (Option Value)} {oc43 kV43 dc43 pm43 cd43 ct43 : Value}
    {f44 : Addr} {od44 an44 : Option Addr} {sl44 : Array (Option Value)} {oc44 kV44 dc44 pm44 cd44 ct44 : Value}
    {f45 : Addr} {od45 an45 : Option Addr} {sl45 : Array (Option Value)} {oc45 kV45 dc45 pm45 cd45 ct45 : Value}
    {f46 : Addr} {od46 an46 : Option Addr} {sl46 : Array (Option Value)} {oc46 kV46 dc46 pm46 cd46 ct46 : Value}
    {f47 : Addr} {od47 an47 : Option Addr} {sl47 : Array (Option Value)} {oc47 kV47 dc47 pm47 cd47 ct47 : Value}
    {f48 : Addr} {od48 an48 : Option Addr} {sl48 : Array (Option Value)} {oc48 kV48 dc48 pm48 cd48 ct48 : Value}
    {f49 : Addr} {od49 an49 : Option Addr} {sl49 : Array (Option Value)} {oc49 kV49 dc49 pm49 cd49 ct49 : Value}
    {f50 : Addr} {od50 an50 : Option Addr} {sl50 : Array (Option Value)} {oc50 kV50 dc50 pm50 cd50 ct50 : Value}
    {f51 : Addr} {od51 an51 : Option Addr} {sl51 : Array (Option Value)} {oc51 kV51 dc51 pm51 cd51 ct51 : Value}
    {f52 : Addr} {od52 an52 : Option Addr} {sl52 : Array (Option Value)} {oc52 kV52 dc52 pm52 cd52 ct52 : Value}
    {f53 : Addr} {od53 an53 : Option Addr} {sl53 : Array (Option Value)} {oc53 kV53 dc53 pm53 cd53 ct53 : Value}
    {f54 : Addr} {od54 an54 : Option Addr} {sl54 : Array (Option Value)} {oc54 kV54 dc54 pm54 cd54 ct54 : Value}
    {f55 : Addr} {od55 an55 : Option Addr} {sl55 : Array (Option Value)} {oc55 kV55 dc55 pm55 cd55 ct55 : Value}
    {f56 : Addr} {od56 an56 : Option Addr} {sl56 : Array (Option Value)} {oc56 kV56 dc56 pm56 cd56 ct56 : Value}
    {f57 : Addr} {od57 an57 : Option Addr} {sl57 : Array (Option Value)} {oc57 kV57 dc57 pm57 cd57 ct57 : Value}
    {f58 : Addr} {od58 an58 : Option Addr} {sl58 : Array (Option Value)} {oc58 kV58 dc58 pm58 cd58 ct58 : Value}
    {f59 : Addr} {od59 an59 : Option Addr} {sl59 : Array (Option Value)} {oc59 kV59 dc59 pm59 cd59 ct59 : Value}
    {f60 : Addr} {od60 an60 : Option Addr} {sl60 : Array (Option Value)} {oc60 kV60 dc60 pm60 cd60 ct60 : Value}
    {f61 : Addr} {od61 an61 : Option Addr} {sl61 : Array (Option Value)} {oc61 kV61 dc61 pm61 cd61 ct61 : Value}
    {f62 : Addr} {od62 an62 : Option Addr} {sl62 : Array (Option Value)} {oc62 kV62 dc62 pm62 cd62 ct62 : Value}
    {f63 : Addr} {od63 an63 : Option Addr} {sl63 : Array (Option Value)} {oc63 kV63 dc63 pm63 cd63 ct63 : Value}
    {f64 : Addr} {od64 an64 : Option Addr} {sl64 : Array (Option Value)} {oc64 kV64 dc64 pm64 cd64 ct64 : Value}
    {fI : Addr} {odI anI : Option Addr} {slI : Array (Option Value)} {ocI kVI dcI pmI cdI ctI : Value} {C F aN aO : Addr}
    {nm q : Str} {N : Addr} {bs : List Value} {sn : List Str} {sub : List Value} {ab : Bool} {col : Option Bool} {dd : Option Addr} {m0 m1 m2 m3 m5 : Option Value} {slN slO : Array (Option Value)} {nN nO : Nat} {tN1 tN2 tO1 tO2 t12w t12s : Nat} {dN dO : Option Addr}
    (a10 : PySem.W.nsIn K mainGlobals "is_whole" = some (some (.ref f10))) (l10 : K.lookup f10 = some ⟨oc10, od10, .func (PySem.W.fnOf "is_whole" "is_whole" (defArgs (topS 10)) (defBody (topS 10)) (defScope (topS 10)) .none kV10 dc10 pm10 an10 cd10 ct10), sl10⟩) (c10 : PySem.W.codeIn K cd10 "is_whole" = true) (k10 : PySem.W.keepIn K (.ref f10) = true)
    (a11 : PySem.W.nsIn K mainGlobals "shared" = some (some (.ref f11))) (l11 : K.lookup f11 = some ⟨oc11, od11, .func (PySem.W.fnOf "shared" "shared" (defArgs (topS 11)) (defBody (topS 11)) (defScope (topS 11)) .none kV11 dc11 pm11 an11 cd11 ct11), sl11⟩) (c11 : PySem.W.codeIn K cd11 "shared" = true) (k11 : PySem.W.keepIn K (.ref f11) = true)
    (a12 : PySem.W.nsIn K mainGlobals "is_number" = some (some (.ref f12))) (l12 : K.lookup f12 = some ⟨oc12, od12, .func (PySem.W.fnOf "is_number" "is_number" (defArgs (topS 12)) (defBody (topS 12)) (defScope (topS 12)) .none kV12 dc12 pm12 an12 cd12 ct12), sl12⟩) (c12 : PySem.W.codeIn K cd12 "is_number" = true) (k12 : PySem.W.keepIn K (.ref f12) = true)
    (a13 : PySem.W.nsIn K mainGlobals "number_of" = some (some (.ref f13))) (l13 : K.lookup f13 = some ⟨oc13, od13, .func (PySem.W.fnOf "number_of" "number_of" (defArgs (topS 13)) (defBody (topS 13)) (defScope (topS 13)) .none kV13 dc13 pm13 an13 cd13 ct13), sl13⟩) (c13 : PySem.W.codeIn K cd13 "number_of" = true) (k13 : PySem.W.keepIn K (.ref f13) = true)
    (a14 : PySem.W.nsIn K mainGlobals "plus" = some (some (.ref f14))) (l14 : K.lookup f14 = some ⟨oc14, od14, .func (PySem.W.fnOf "plus" "plus" (defArgs (topS 14)) (defBody (topS 14)) (defScope (topS 14)) .none kV14 dc14 pm14 an14 cd14 ct14), sl14⟩) (c14 : PySem.W.codeIn K cd14 "plus" = true) (k14 : PySem.W.keepIn K (.ref f14) = true)
    (a15 : PySem.W.nsIn K mainGlobals "minus" = some (some (.ref f15))) (l15 : K.lookup f15 = some ⟨oc15, od15, .func (PySem.W.fnOf "minus" "minus" (defArgs (topS 15)) (defBody (topS 15)) (defScope (topS 15)) .none kV15 dc15 pm15 an15 cd15 ct15), sl15⟩) (c15 : PySem.W.codeIn K cd15 "minus" = true) (k15 : PySem.W.keepIn K (.ref f15) = true)
    (a16 : PySem.W.nsIn K mainGlobals "times" = some (some (.ref f16))) (l16 : K.lookup f16 = some ⟨oc16, od16, .func (PySem.W.fnOf "times" "times" (defArgs (topS 16)) (defBody (topS 16)) (defScope (topS 16)) .none kV16 dc16 pm16 an16 cd16 ct16), sl16⟩) (c16 : PySem.W.codeIn K cd16 "times" = true) (k16 : PySem.W.keepIn K (.ref f16) = true)
    (a17 : PySem.W.nsIn K mainGlobals "over" = some (some (.ref f17))) (l17 : K.lookup f17 = some ⟨oc17, od17, .func (PySem.W.fnOf "over" "over" (defArgs (topS 17)) (defBody (topS 17)) (defScope (topS 17)) .none kV17 dc17 pm17 an17 cd17 ct17), sl17⟩) (c17 : PySem.W.codeIn K cd17 "over" = true) (k17 : PySem.W.keepIn K (.ref f17) = true)
    (a20 : PySem.W.nsIn K mainGlobals "is_place" = some (some (.ref f20))) (l20 : K.lookup f20 = some ⟨oc20, od20, .func (PySem.W.fnOf "is_place" "is_place" (defArgs (topS 20)) (defBody (topS 20)) (defScope (topS 20)) .none kV20 dc20 pm20 an20 cd20 ct20), sl20⟩) (c20 : PySem.W.codeIn K cd20 "is_place" = true) (k20 : PySem.W.keepIn K (.ref f20) = true)
    (a21 : PySem.W.nsIn K mainGlobals "is_count" = some (some (.ref f21))) (l21 : K.lookup f21 = some ⟨oc21, od21, .func (PySem.W.fnOf "is_count" "is_count" (defArgs (topS 21)) (defBody (topS 21)) (defScope (topS 21)) .none kV21 dc21 pm21 an21 cd21 ct21), sl21⟩) (c21 : PySem.W.codeIn K cd21 "is_count" = true) (k21 : PySem.W.keepIn K (.ref f21) = true)
    (a22 : PySem.W.nsIn K mainGlobals "is_tie" = some (some (.ref f22))) (l22 : K.lookup f22 = some ⟨oc22, od22, .func (PySem.W.fnOf "is_tie" "is_tie" (defArgs (topS 22)) (defBody (topS 22)) (defScope (topS 22)) .none kV22 dc22 pm22 an22 cd22 ct22), sl22⟩) (c22 : PySem.W.codeIn K cd22 "is_tie" = true) (k22 : PySem.W.keepIn K (.ref f22) = true)
    (a23 : PySem.W.nsIn K mainGlobals "web_of" = some (some (.ref f23))) (l23 : K.lookup f23 = some ⟨oc23, od23, .func (PySem.W.fnOf "web_of" "web_of" (defArgs (topS 23)) (defBody (topS 23)) (defScope (topS 23)) .none kV23 dc23 pm23 an23 cd23 ct23), sl23⟩) (c23 : PySem.W.codeIn K cd23 "web_of" = true) (k23 : PySem.W.keepIn K (.ref f23) = true)
    (a24 : PySem.W.nsIn K mainGlobals "is_order" = some (some (.ref f24))) (l24 : K.lookup f24 = some ⟨oc24, od24, .func (PySem.W.fnOf "is_order" "is_order" (defArgs (topS 24)) (defBody (topS 24)) (defScope (topS 24)) .none kV24 dc24 pm24 an24 cd24 ct24), sl24⟩) (c24 : PySem.W.codeIn K cd24 "is_order" = true) (k24 : PySem.W.keepIn K (.ref f24) = true)
    (a27 : PySem.W.nsIn K mainGlobals "stands_below" = some (some (.ref f27))) (l27 : K.lookup f27 = some ⟨oc27, od27, .func (PySem.W.fnOf "stands_below" "stands_below" (defArgs (topS 27)) (defBody (topS 27)) (defScope (topS 27)) .none kV27 dc27 pm27 an27 cd27 ct27), sl27⟩) (c27 : PySem.W.codeIn K cd27 "stands_below" = true) (k27 : PySem.W.keepIn K (.ref f27) = true)
    (a28 : PySem.W.nsIn K mainGlobals "is_part" = some (some (.ref f28))) (l28 : K.lookup f28 = some ⟨oc28, od28, .func (PySem.W.fnOf "is_part" "is_part" (defArgs (topS 28)) (defBody (topS 28)) (defScope (topS 28)) .none kV28 dc28 pm28 an28 cd28 ct28), sl28⟩) (c28 : PySem.W.codeIn K cd28 "is_part" = true) (k28 : PySem.W.keepIn K (.ref f28) = true)
    (a29 : PySem.W.nsIn K mainGlobals "is_sheet_row" = some (some (.ref f29))) (l29 : K.lookup f29 = some ⟨oc29, od29, .func (PySem.W.fnOf "is_sheet_row" "is_sheet_row" (defArgs (topS 29)) (defBody (topS 29)) (defScope (topS 29)) .none kV29 dc29 pm29 an29 cd29 ct29), sl29⟩) (c29 : PySem.W.codeIn K cd29 "is_sheet_row" = true) (k29 : PySem.W.keepIn K (.ref f29) = true)
    (a30 : PySem.W.nsIn K mainGlobals "is_sheet" = some (some (.ref f30))) (l30 : K.lookup f30 = some ⟨oc30, od30, .func (PySem.W.fnOf "is_sheet" "is_sheet" (defArgs (topS 30)) (defBody (topS 30)) (defScope (topS 30)) .none kV30 dc30 pm30 an30 cd30 ct30), sl30⟩) (c30 : PySem.W.codeIn K cd30 "is_sheet" = true) (k30 : PySem.W.keepIn K (.ref f30) = true)
    (a31 : PySem.W.nsIn K mainGlobals "sheet_of" = some (some (.ref f31))) (l31 : K.lookup f31 = some ⟨oc31, od31, .func (PySem.W.fnOf "sheet_of" "sheet_of" (defArgs (topS 31)) (defBody (topS 31)) (defScope (topS 31)) .none kV31 dc31 pm31 an31 cd31 ct31), sl31⟩) (c31 : PySem.W.codeIn K cd31 "sheet_of" = true) (k31 : PySem.W.keepIn K (.ref f31) = true)
    (a32 : PySem.W.nsIn K mainGlobals "web_of_sheet" = some (some (.ref f32))) (l32 : K.lookup f32 = some ⟨oc32, od32, .func (PySem.W.fnOf "web_of_sheet" "web_of_sheet" (defArgs (topS 32)) (defBody (topS 32)) (defScope (topS 32)) .none kV32 dc32 pm32 an32 cd32 ct32), sl32⟩) (c32 : PySem.W.codeIn K cd32 "web_of_sheet" = true) (k32 : PySem.W.keepIn K (.ref f32) = true)
    (a34 : PySem.W.nsIn K mainGlobals "take_away" = some (some (.ref f34))) (l34 : K.lookup f34 = some ⟨oc34, od34, .func (PySem.W.fnOf "take_away" "take_away" (defArgs (topS 34)) (defBody (topS 34)) (defScope (topS 34)) .none kV34 dc34 pm34 an34 cd34 ct34), sl34⟩) (c34 : PySem.W.codeIn K cd34 "take_away" = true) (k34 : PySem.W.keepIn K (.ref f34) = true)
    (a35 : PySem.W.nsIn K mainGlobals "step" = some (some (.ref f35))) (l35 : K.lookup f35 = some ⟨oc35, od35, .func (PySem.W.fnOf "step" "step" (defArgs (topS 35)) (defBody (topS 35)) (defScope (topS 35)) .none kV35 dc35 pm35 an35 cd35 ct35), sl35⟩) (c35 : PySem.W.codeIn K cd35 "step" = true) (k35 : PySem.W.keepIn K (.ref f35) = true)
    (a36 : PySem.W.nsIn K mainGlobals "struck" = some (some (.ref f36))) (l36 : K.lookup f36 = some ⟨oc36, od36, .func (PySem.W.fnOf "struck" "struck" (defArgs (topS 36)) (defBody (topS 36)) (defScope (topS 36)) .none kV36 dc36 pm36 an36 cd36 ct36), sl36⟩) (c36 : PySem.W.codeIn K cd36 "struck" = true) (k36 : PySem.W.keepIn K (.ref f36) = true)
    (a37 : PySem.W.nsIn K mainGlobals "put_back" = some (some (.ref f37))) (l37 : K.lookup f37 = some ⟨oc37, od37, .func (PySem.W.fnOf "put_back" "put_back" (defArgs (topS 37)) (defBody (topS 37)) (defScope (topS 37)) .none kV37 dc37 pm37 an37 cd37 ct37), sl37⟩) (c37 : PySem.W.codeIn K cd37 "put_back" = true) (k37 : PySem.W.keepIn K (.ref f37) = true)
    (a38 : PySem.W.nsIn K mainGlobals "solved" = some (some (.ref f38))) (l38 : K.lookup f38 = some ⟨oc38, od38, .func (PySem.W.fnOf "solved" "solved" (defArgs (topS 38)) (defBody (topS 38)) (defScope (topS 38)) .none kV38 dc38 pm38 an38 cd38 ct38), sl38⟩) (c38 : PySem.W.codeIn K cd38 "solved" = true) (k38 : PySem.W.keepIn K (.ref f38) = true)
    (a40 : PySem.W.nsIn K mainGlobals "_law_pen" = some (some (.ref f40))) (l40 : K.lookup f40 = some ⟨oc40, od40, .func (PySem.W.fnOf "_law_pen" "_law_pen" (defArgs (topS 40)) (defBody (topS 40)) (defScope (topS 40)) .none kV40 dc40 pm40 an40 cd40 ct40), sl40⟩) (c40 : PySem.W.codeIn K cd40 "_law_pen" = true) (k40 : PySem.W.keepIn K (.ref f40) = true)
    (a41 : PySem.W.nsIn K mainGlobals "_law_draw" = some (some (.ref f41))) (l41 : K.lookup f41 = some ⟨oc41, od41, .func (PySem.W.fnOf "_law_draw" "_law_draw" (defArgs (topS 41)) (defBody (topS 41)) (defScope (topS 41)) .none kV41 dc41 pm41 an41 cd41 ct41), sl41⟩) (c41 : PySem.W.codeIn K cd41 "_law_draw" = true) (k41 : PySem.W.keepIn K (.ref f41) = true)
    (a42 : PySem.W.nsIn K mainGlobals "_law_lowest" = some (some (.ref f42))) (l42 : K.lookup f42 = some ⟨oc42, od42, .func (PySem.W.fnOf "_law_lowest" "_law_lowest" (defArgs (topS 42)) (defBody (topS 42)) (defScope (topS 42)) .none kV42 dc42 pm42 an42 cd42 ct42), sl42⟩) (c42 : PySem.W.codeIn K cd42 "_law_lowest" = true) (k42 : PySem.W.keepIn K (.ref f42) = true)
    (a43 : PySem.W.nsIn K mainGlobals "_law_same" = some (some (.ref f43))) (l43 : K.lookup f43 = some ⟨oc43, od43, .func (PySem.W.fnOf "_law_same" "_law_same" (defArgs (topS 43)) (defBody (topS 43)) (defScope (topS 43)) .none kV43 dc43 pm43 an43 cd43 ct43), sl43⟩) (c43 : PySem.W.codeIn K cd43 "_law_same" = true) (k43 : PySem.W.keepIn K (.ref f43) = true)
    (a44 : PySem.W.nsIn K mainGlobals "_law_number" = some (some (.ref f44))) (l44 : K.lookup f44 = some ⟨oc44, od44, .func (PySem.W.fnOf "_law_number" "_law_number" (defArgs (topS 44)) (defBody (topS 44)) (defScope (topS 44)) .none kV44 dc44 pm44 an44 cd44 ct44), sl44⟩) (c44 : PySem.W.codeIn K cd44 "_law_number" = true) (k44 : PySem.W.keepIn K (.ref f44) = true)
    (a45 : PySem.W.nsIn K mainGlobals "_law_order" = some (some (.ref f45))) (l45 : K.lookup f45 = some ⟨oc45, od45, .func (PySem.W.fnOf "_law_order" "_law_order" (defArgs (topS 45)) (defBody (topS 45)) (defScope (topS 45)) .none kV45 dc45 pm45 an45 cd45 ct45), sl45⟩) (c45 : PySem.W.codeIn K cd45 "_law_order" = true) (k45 : PySem.W.keepIn K (.ref f45) = true)
    (a46 : PySem.W.nsIn K mainGlobals "_law_rows" = some (some (.ref f46))) (l46 : K.lookup f46 = some ⟨oc46, od46, .func (PySem.W.fnOf "_law_rows" "_law_rows" (defArgs (topS 46)) (defBody (topS 46)) (defScope (topS 46)) .none kV46 dc46 pm46 an46 cd46 ct46), sl46⟩) (c46 : PySem.W.codeIn K cd46 "_law_rows" = true) (k46 : PySem.W.keepIn K (.ref f46) = true)
    (a47 : PySem.W.nsIn K mainGlobals "_law_plus" = some (some (.ref f47))) (l47 : K.lookup f47 = some ⟨oc47, od47, .func (PySem.W.fnOf "_law_plus" "_law_plus" (defArgs (topS 47)) (defBody (topS 47)) (defScope (topS 47)) .none kV47 dc47 pm47 an47 cd47 ct47), sl47⟩) (c47 : PySem.W.codeIn K cd47 "_law_plus" = true) (k47 : PySem.W.keepIn K (.ref f47) = true)
    (a48 : PySem.W.nsIn K mainGlobals "_law_times" = some (some (.ref f48))) (l48 : K.lookup f48 = some ⟨oc48, od48, .func (PySem.W.fnOf "_law_times" "_law_times" (defArgs (topS 48)) (defBody (topS 48)) (defScope (topS 48)) .none kV48 dc48 pm48 an48 cd48 ct48), sl48⟩) (c48 : PySem.W.codeIn K cd48 "_law_times" = true) (k48 : PySem.W.keepIn K (.ref f48) = true)
    (a49 : PySem.W.nsIn K mainGlobals "_law_near" = some (some (.ref f49))) (l49 : K.lookup f49 = some ⟨oc49, od49, .func (PySem.W.fnOf "_law_near" "_law_near" (defArgs (topS 49)) (defBody (topS 49)) (defScope (topS 49)) .none kV49 dc49 pm49 an49 cd49 ct49), sl49⟩) (c49 : PySem.W.codeIn K cd49 "_law_near" = true) (k49 : PySem.W.keepIn K (.ref f49) = true)
    (a50 : PySem.W.nsIn K mainGlobals "_law_later" = some (some (.ref f50))) (l50 : K.lookup f50 = some ⟨oc50, od50, .func (PySem.W.fnOf "_law_later" "_law_later" (defArgs (topS 50)) (defBody (topS 50)) (defScope (topS 50)) .none kV50 dc50 pm50 an50 cd50 ct50), sl50⟩) (c50 : PySem.W.codeIn K cd50 "_law_later" = true) (k50 : PySem.W.keepIn K (.ref f50) = true)
    (a51 : PySem.W.nsIn K mainGlobals "_law_above" = some (some (.ref f51))) (l51 : K.lookup f51 = some ⟨oc51, od51, .func (PySem.W.fnOf "_law_above" "_law_above" (defArgs (topS 51)) (defBody (topS 51)) (defScope (topS 51)) .none kV51 dc51 pm51 an51 cd51 ct51), sl51⟩) (c51 : PySem.W.codeIn K cd51 "_law_above" = true) (k51 : PySem.W.keepIn K (.ref f51) = true)
    (a52 : PySem.W.nsIn K mainGlobals "_law_ties_of" = some (some (.ref f52))) (l52 : K.lookup f52 = some ⟨oc52, od52, .func (PySem.W.fnOf "_law_ties_of" "_law_ties_of" (defArgs (topS 52)) (defBody (topS 52)) (defScope (topS 52)) .none kV52 dc52 pm52 an52 cd52 ct52), sl52⟩) (c52 : PySem.W.codeIn K cd52 "_law_ties_of" = true) (k52 : PySem.W.keepIn K (.ref f52) = true)
    (a53 : PySem.W.nsIn K mainGlobals "_law_whole" = some (some (.ref f53))) (l53 : K.lookup f53 = some ⟨oc53, od53, .func (PySem.W.fnOf "_law_whole" "_law_whole" (defArgs (topS 53)) (defBody (topS 53)) (defScope (topS 53)) .none kV53 dc53 pm53 an53 cd53 ct53), sl53⟩) (c53 : PySem.W.codeIn K cd53 "_law_whole" = true) (k53 : PySem.W.keepIn K (.ref f53) = true)
    (a54 : PySem.W.nsIn K mainGlobals "_law_is_number" = some (some (.ref f54))) (l54 : K.lookup f54 = some ⟨oc54, od54, .func (PySem.W.fnOf "_law_is_number" "_law_is_number" (defArgs (topS 54)) (defBody (topS 54)) (defScope (topS 54)) .none kV54 dc54 pm54 an54 cd54 ct54), sl54⟩) (c54 : PySem.W.codeIn K cd54 "_law_is_number" = true) (k54 : PySem.W.keepIn K (.ref f54) = true)
    (a55 : PySem.W.nsIn K mainGlobals "_law_are_parts" = some (some (.ref f55))) (l55 : K.lookup f55 = some ⟨oc55, od55, .func (PySem.W.fnOf "_law_are_parts" "_law_are_parts" (defArgs (topS 55)) (defBody (topS 55)) (defScope (topS 55)) .none kV55 dc55 pm55 an55 cd55 ct55), sl55⟩) (c55 : PySem.W.codeIn K cd55 "_law_are_parts" = true) (k55 : PySem.W.keepIn K (.ref f55) = true)
    (a56 : PySem.W.nsIn K mainGlobals "_law_is_work" = some (some (.ref f56))) (l56 : K.lookup f56 = some ⟨oc56, od56, .func (PySem.W.fnOf "_law_is_work" "_law_is_work" (defArgs (topS 56)) (defBody (topS 56)) (defScope (topS 56)) .none kV56 dc56 pm56 an56 cd56 ct56), sl56⟩) (c56 : PySem.W.codeIn K cd56 "_law_is_work" = true) (k56 : PySem.W.keepIn K (.ref f56) = true)
    (a57 : PySem.W.nsIn K mainGlobals "_law_multiplied" = some (some (.ref f57))) (l57 : K.lookup f57 = some ⟨oc57, od57, .func (PySem.W.fnOf "_law_multiplied" "_law_multiplied" (defArgs (topS 57)) (defBody (topS 57)) (defScope (topS 57)) .none kV57 dc57 pm57 an57 cd57 ct57), sl57⟩) (c57 : PySem.W.codeIn K cd57 "_law_multiplied" = true) (k57 : PySem.W.keepIn K (.ref f57) = true)
    (a58 : PySem.W.nsIn K mainGlobals "_law_above_all" = some (some (.ref f58))) (l58 : K.lookup f58 = some ⟨oc58, od58, .func (PySem.W.fnOf "_law_above_all" "_law_above_all" (defArgs (topS 58)) (defBody (topS 58)) (defScope (topS 58)) .none kV58 dc58 pm58 an58 cd58 ct58), sl58⟩) (c58 : PySem.W.codeIn K cd58 "_law_above_all" = true) (k58 : PySem.W.keepIn K (.ref f58) = true)
    (a59 : PySem.W.nsIn K mainGlobals "_law_keeping" = some (some (.ref f59))) (l59 : K.lookup f59 = some ⟨oc59, od59, .func (PySem.W.fnOf "_law_keeping" "_law_keeping" (defArgs (topS 59)) (defBody (topS 59)) (defScope (topS 59)) .none kV59 dc59 pm59 an59 cd59 ct59), sl59⟩) (c59 : PySem.W.codeIn K cd59 "_law_keeping" = true) (k59 : PySem.W.keepIn K (.ref f59) = true)
    (a60 : PySem.W.nsIn K mainGlobals "_law_struck" = some (some (.ref f60))) (l60 : K.lookup f60 = some ⟨oc60, od60, .func (PySem.W.fnOf "_law_struck" "_law_struck" (defArgs (topS 60)) (defBody (topS 60)) (defScope (topS 60)) .none kV60 dc60 pm60 an60 cd60 ct60), sl60⟩) (c60 : PySem.W.codeIn K cd60 "_law_struck" = true) (k60 : PySem.W.keepIn K (.ref f60) = true)
    (a61 : PySem.W.nsIn K mainGlobals "_law_comes" = some (some (.ref f61))) (l61 : K.lookup f61 = some ⟨oc61, od61, .func (PySem.W.fnOf "_law_comes" "_law_comes" (defArgs (topS 61)) (defBody (topS 61)) (defScope (topS 61)) .none kV61 dc61 pm61 an61 cd61 ct61), sl61⟩) (c61 : PySem.W.codeIn K cd61 "_law_comes" = true) (k61 : PySem.W.keepIn K (.ref f61) = true)
    (a62 : PySem.W.nsIn K mainGlobals "_law_order_right" = some (some (.ref f62))) (l62 : K.lookup f62 = some ⟨oc62, od62, .func (PySem.W.fnOf "_law_order_right" "_law_order_right" (defArgs (topS 62)) (defBody (topS 62)) (defScope (topS 62)) .none kV62 dc62 pm62 an62 cd62 ct62), sl62⟩) (c62 : PySem.W.codeIn K cd62 "_law_order_right" = true) (k62 : PySem.W.keepIn K (.ref f62) = true)
    (a63 : PySem.W.nsIn K mainGlobals "_law_right" = some (some (.ref f63))) (l63 : K.lookup f63 = some ⟨oc63, od63, .func (PySem.W.fnOf "_law_right" "_law_right" (defArgs (topS 63)) (defBody (topS 63)) (defScope (topS 63)) .none kV63 dc63 pm63 an63 cd63 ct63), sl63⟩) (c63 : PySem.W.codeIn K cd63 "_law_right" = true) (k63 : PySem.W.keepIn K (.ref f63) = true)
    (a64 : PySem.W.nsIn K mainGlobals "law" = some (some (.ref f64))) (l64 : K.lookup f64 = some ⟨oc64, od64, .func (PySem.W.fnOf "law" "law" (defArgs (topS 64)) (defBody (topS 64)) (defScope (topS 64)) .none kV64 dc64 pm64 an64 cd64 ct64), sl64⟩) (c64 : PySem.W.codeIn K cd64 "law" = true) (k64 : PySem.W.keepIn K (.ref f64) = true)
    (z_abs : PySem.W.nsIn K mainGlobals "abs" = some none)
    (z_all : PySem.W.nsIn K mainGlobals "all" = some none)
    (z_bool : PySem.W.nsIn K mainGlobals "bool" = some none)
    (z_dict : PySem.W.nsIn K mainGlobals "dict" = some none)
    (z_enumerate : PySem.W.nsIn K mainGlobals "enumerate" = some none)
    (z_int : PySem.W.nsIn K mainGlobals "int" = some none)
    (z_isinstance : PySem.W.nsIn K mainGlobals "isinstance" = some none)
    (z_len : PySem.W.nsIn K mainGlobals "len" = some none)
    (z_list : PySem.W.nsIn K mainGlobals "list" = some none)
    (z_max : PySem.W.nsIn K mainGlobals "max" = some none)
    (z_min : PySem.W.nsIn K mainGlobals "min" = some none)
    (z_range : PySem.W.nsIn K mainGlobals "range" = some none)
    (z_reversed : PySem.W.nsIn K mainGlobals "reversed" = some none)
    (z_set : PySem.W.nsIn K mainGlobals "set" = some none)
    (z_sorted : PySem.W.nsIn K mainGlobals "sorted" = some none)
    (z_tuple : PySem.W.nsIn K mainGlobals "tuple" = some none)
    (z_zip : PySem.W.nsIn K mainGlobals "zip" = some none)
    (gN : PySem.W.nsIn K mainGlobals "NOUGHT" = some (some (.ref aN))) (oN : K.lookup aN = some { cls := .type "tuple", dict := dN, data := .seq #[.int 0 tN1, .int 1 tN2] nN, slots := slN })
    (gO : PySem.W.nsIn K mainGlobals "ONE" = some (some (.ref aO))) (oO : K.lookup aO = some { cls := .type "tuple", dict := dO, data := .seq #[.int 1 tO1, .int 1 tO2] nO, slots := slO })
    (p_webs : PySem.W.nsIn K mainGlobals "MOST_PLACES_webs" = some (some (.int 12 t12w)))
    (p_sheets : PySem.W.nsIn K mainGlobals "MOST_PLACES_sheets" = some (some (.int 12 t12s)))
    (gC : PySem.W.nsIn K mainGlobals "NoPivot" = some (some (.ref C)))
    (gF : PySem.W.nsIn K mainGlobals "FillError" = some (some (.ref F)))
    (xC : K.lookup C = some (excClassObj nm q C N bs (.ref F :: [.type "ValueError", .type "Exception", .type "BaseException", .type "object"]) true sn sub ab col dd m0 m1 m2 m3 m5 "ValueError.__new__"))
    (sa : PySem.W.findIn K (.ref C) "__setattr__" = some (some (.builtin "object.__setattr__")))
    (nP : PySem.W.findIn K (.ref C) "place" = some none)
    (iC : PySem.W.findIn K (.ref C) "__init__" = some (some (.ref fI)))
    (tI : PySem.W.typeIn K (.ref fI) = some (.type "function"))
    (lI : K.lookup fI = some ⟨ocI, odI, .func (PySem.W.fnOf "__init__" "NoPivot.__init__" (defArgs (inClass (topS 6) 0)) (defBody (inClass (topS 6) 0)) (defScope (inClass (topS 6) 0)) .none kVI dcI pmI anI cdI ctI), slI⟩)
    (cI : PySem.W.codeIn K cdI "NoPivot.__init__" = true)
    (kI : PySem.W.keepIn K (.ref fI) = true)
    (kC : PySem.W.keepIn K (.ref C) = true)
    (eC : PySem.W.subIn K (.ref C) (.type "BaseException") = some true)
    (tC : PySem.W.typeIn K (.ref C) = some (.type "type"))
    (isC : PySem.W.isClsIn K C = true)
    (sC : PySem.W.subIn K (.ref C) (.ref C) = some true)
    (gaF : PySem.W.specialIn K (.ref F) "__getattribute__" = some (some (.builtin "type.__getattribute__")))
    (rF : PySem.W.readsIn K F (.type "type") = true)
    (vF : PySem.W.findCls K (.ref F) (.type "type") "__init__" = some (.val (.builtin "ValueError.__init__")))
    : Tops K mg := by
  have g := fun {n : Str} {v : Value} (e : PySem.W.nsIn K mainGlobals n = some (some v)) => PySem.W.mg_of X G e
  have z := fun {n : Str} (e : PySem.W.nsIn K mainGlobals n = some none) => PySem.W.mg_none_of X G e
  exact {
    B := { abs := z z_abs, all := z z_all, bool := z z_bool, dict := z z_dict, enumerate := z z_enumerate, int := z z_int, isinstance := z z_isinstance, len := z z_len, list := z z_list, max := z z_max, min := z z_min, range := z z_range, reversed := z z_reversed, set := z z_set, sorted := z z_sorted, tuple := z z_tuple, zip := z z_zip }
    d_is_whole := ⟨⟨_, _, fun_mk l10 c10 k10, g a10⟩⟩
    d_shared := ⟨⟨_, _, fun_mk l11 c11 k11, g a11⟩⟩
    d_is_number := ⟨⟨_, _, fun_mk l12 c12 k12, g a12⟩⟩
    d_number_of := ⟨⟨_, _, fun_mk l13 c13 k13, g a13⟩⟩
    d_plus := ⟨⟨_, _, fun_mk l14 c14 k14, g a14⟩⟩
    d_minus := ⟨⟨_, _, fun_mk l15 c15 k15, g a15⟩⟩
    d_times := ⟨⟨_, _, fun_mk l16 c16 k16, g a16⟩⟩
    d_over := ⟨⟨_, _, fun_mk l17 c17 k17, g a17⟩⟩
    d_is_place := ⟨⟨_, _, fun_mk l20 c20 k20, g a20⟩⟩
    d_is_count := ⟨⟨_, _, fun_mk l21 c21 k21, g a21⟩⟩
    d_is_tie := ⟨⟨_, _, fun_mk l22 c22 k22, g a22⟩⟩
    d_web_of := ⟨⟨_, _, fun_mk l23 c23 k23, g a23⟩⟩
    d_is_order := ⟨⟨_, _, fun_mk l24 c24 k24, g a24⟩⟩
    d_stands_below := ⟨⟨_, _, fun_mk l27 c27 k27, g a27⟩⟩
    d_is_part := ⟨⟨_, _, fun_mk l28 c28 k28, g a28⟩⟩
    d_is_sheet_row := ⟨⟨_, _, fun_mk l29 c29 k29, g a29⟩⟩
    d_is_sheet := ⟨⟨_, _, fun_mk l30 c30 k30, g a30⟩⟩
    d_sheet_of := ⟨⟨_, _, fun_mk l31 c31 k31, g a31⟩⟩
    d_web_of_sheet := ⟨⟨_, _, fun_mk l32 c32 k32, g a32⟩⟩
    d_take_away := ⟨⟨_, _, fun_mk l34 c34 k34, g a34⟩⟩
    d_step := ⟨⟨_, _, fun_mk l35 c35 k35, g a35⟩⟩
    d_struck := ⟨⟨_, _, fun_mk l36 c36 k36, g a36⟩⟩
    d_put_back := ⟨⟨_, _, fun_mk l37 c37 k37, g a37⟩⟩
    d_solved := ⟨⟨_, _, fun_mk l38 c38 k38, g a38⟩⟩
    d_law_pen := ⟨⟨_, _, fun_mk l40 c40 k40, g a40⟩⟩
    d_law_draw := ⟨⟨_, _, fun_mk l41 c41 k41, g a41⟩⟩
    d_law_lowest := ⟨⟨_, _, fun_mk l42 c42 k42, g a42⟩⟩
    d_law_same := ⟨⟨_, _, fun_mk l43 c43 k43, g a43⟩⟩
    d_law_number := ⟨⟨_, _, fun_mk l44 c44 k44, g a44⟩⟩
    d_law_order := ⟨⟨_, _, fun_mk l45 c45 k45, g a45⟩⟩
    d_law_rows := ⟨⟨_, _, fun_mk l46 c46 k46, g a46⟩⟩
    d_law_plus := ⟨⟨_, _, fun_mk l47 c47 k47, g a47⟩⟩
    d_law_times := ⟨⟨_, _, fun_mk l48 c48 k48, g a48⟩⟩
    d_law_near := ⟨⟨_, _, fun_mk l49 c49 k49, g a49⟩⟩
    d_law_later := ⟨⟨_, _, fun_mk l50 c50 k50, g a50⟩⟩
    d_law_above := ⟨⟨_, _, fun_mk l51 c51 k51, g a51⟩⟩
    d_law_ties_of := ⟨⟨_, _, fun_mk l52 c52 k52, g a52⟩⟩
    d_law_whole := ⟨⟨_, _, fun_mk l53 c53 k53, g a53⟩⟩
    d_law_is_number := ⟨⟨_, _, fun_mk l54 c54 k54, g a54⟩⟩
    d_law_are_parts := ⟨⟨_, _, fun_mk l55 c55 k55, g a55⟩⟩
    d_law_is_work := ⟨⟨_, _, fun_mk l56 c56 k56, g a56⟩⟩
    d_law_multiplied := ⟨⟨_, _, fun_mk l57 c57 k57, g a57⟩⟩
    d_law_above_all := ⟨⟨_, _, fun_mk l58 c58 k58, g a58⟩⟩
    d_law_keeping := ⟨⟨_, _, fun_mk l59 c59 k59, g a59⟩⟩
    d_law_struck := ⟨⟨_, _, fun_mk l60 c60 k60, g a60⟩⟩
    d_law_comes := ⟨⟨_, _, fun_mk l61 c61 k61, g a61⟩⟩
    d_law_order_right := ⟨⟨_, _, fun_mk l62 c62 k62, g a62⟩⟩
    d_law_right := ⟨⟨_, _, fun_mk l63 c63 k63, g a63⟩⟩
    d_law := ⟨⟨_, _, fun_mk l64 c64 k64, g a64⟩⟩
    v_NOUGHT := ⟨_, g gN, fun H => sq_mod oN⟩
    v_ONE := ⟨_, g gO, fun H => sq_mod oO⟩
    v_MOST_PLACES_webs := ⟨_, g p_webs⟩
    v_MOST_PLACES_sheets := ⟨_, g p_sheets⟩
    np := ⟨C, F, fI, _, { gC := g gC, gF := g gF, ox := ⟨⟨nm, q, N, bs, _, sn, sub, ab, col, dd, m0, m1, m2, m3, m5, xC, rfl⟩, sa, eC, tC, kC⟩, noP := nP, iC := iC, tI := tI, ga := gaF, rd := rF, vF := vF, te := exm_self eC isC tC sC, fn := fun_mk lI cI kI }⟩ }
end FW
end

/-! ## W0g -/
section
set_option Elab.async false
set_option linter.all false
set_option maxRecDepth 100000
set_option maxHeartbeats 4000000
namespace FW
open PySem PySem.Spec PyProof.Rows L2 FF
section
variable {K : PySem.W.Frag} {H : Hp} {a : Addr} {xs ys : List V} {Q : VK} {x y : V}
/-! ### readings, ready for use -/
theorem ty_tup (h : SqT K H a xs) : TyX K H (.ref a) (.type "tuple") := by
  rcases h with (h | ⟨o, h⟩) | ⟨o, its, n, h, c, _⟩
  · exact .base (.tup h)
  · exact .fTuple h
  · exact .kTuple h c
theorem ty_lst (h : SqL K H a xs) : TyX K H (.ref a) (.type "list") := by
  rcases h with (h | ⟨o, h⟩) | ⟨o, its, n, h, c, _⟩
  · exact .base (.lst h)
  · exact .base (.frz h)
  · exact .kList h c
theorem is_tt (h : SqT K H a xs) (q : Q (.bl true) H) : rIsi K [.ref a, .ty "tuple"] H Q := ⟨_, _, _, _, true, rfl, .ty _, ty_tup h, kit_ty (by decide +kernel), q⟩
theorem is_tl (h : SqT K H a xs) (q : Q (.bl false) H) : rIsi K [.ref a, .ty "list"] H Q := ⟨_, _, _, _, false, rfl, .ty _, ty_tup h, kit_ty (by decide +kernel), q⟩
theorem is_ll (h : SqL K H a xs) (q : Q (.bl true) H) : rIsi K [.ref a, .ty "list"] H Q := ⟨_, _, _, _, true, rfl, .ty _, ty_lst h, kit_ty (by decide +kernel), q⟩
theorem is_lt (h : SqL K H a xs) (q : Q (.bl false) H) : rIsi K [.ref a, .ty "tuple"] H Q := ⟨_, _, _, _, false, rfl, .ty _, ty_lst h, kit_ty (by decide +kernel), q⟩
theorem is_ii {i : Int} (q : Q (.bl true) H) : rIsi K [.int i, .ty "int"] H Q := ⟨_, _, _, _, true, rfl, .ty _, .base (.int i), kit_ty (by decide +kernel), q⟩
theorem is_ib {i : Int} (q : Q (.bl false) H) : rIsi K [.int i, .ty "bool"] H Q := ⟨_, _, _, _, false, rfl, .ty _, .base (.int i), kit_ty (by decide +kernel), q⟩
/-- isinstance(x, (list, tuple)) -/
theorem is2_l {p : Addr} (h : SqL K H a xs) (hp : H p = some (.tup [.ty "list", .ty "tuple"])) (q : Q (.bl true) H) : rIsiT K [.ref a, .ref p] H Q :=
  ⟨_, p, _, _, [.type "list", .type "tuple"], true, rfl, hp, .cons (.ty _) (.cons (.ty _) .nil), ty_lst h, rfl, q⟩
theorem is2_t {p : Addr} (h : SqT K H a xs) (hp : H p = some (.tup [.ty "list", .ty "tuple"])) (q : Q (.bl true) H) : rIsiT K [.ref a, .ref p] H Q :=
  ⟨_, p, _, _, [.type "list", .type "tuple"], true, rfl, hp, .cons (.ty _) (.cons (.ty _) .nil), ty_tup h, rfl, q⟩
theorem is2_i {p : Addr} {i : Int} (hp : H p = some (.tup [.ty "list", .ty "tuple"])) (q : Q (.bl false) H) : rIsiT K [.int i, .ref p] H Q :=
  ⟨_, p, _, _, [.type "list", .type "tuple"], false, rfl, hp, .cons (.ty _) (.cons (.ty _) .nil), .base (.int i), rfl, q⟩
theorem len_t (h : SqT K H a xs) (q : Q (.int xs.length) H) : (fun (vs : List V) (H : Hp) (Q : VK) => ∃ p ys, vs = [V.ref p] ∧ (SqL K H p ys ∨ SqT K H p ys) ∧ Q (.int ys.length) H) [.ref a] H Q := ⟨a, xs, rfl, .inr h, q⟩
theorem len_l (h : SqL K H a xs) (q : Q (.int xs.length) H) : (fun (vs : List V) (H : Hp) (Q : VK) => ∃ p ys, vs = [V.ref p] ∧ (SqL K H p ys ∨ SqT K H p ys) ∧ Q (.int ys.length) H) [.ref a] H Q := ⟨a, xs, rfl, .inl h, q⟩
theorem ix_t {i : Int} {v : V} (h : SqT K H a xs) (e : atI xs i = some v) (q : Q v H) : rIxT K (.ref a) (.int i) H Q := ⟨_, _, _, _, rfl, rfl, h, e, q⟩
theorem ix_l {i : Int} {v : V} (h : SqL K H a xs) (e : atI xs i = some v) (q : Q v H) : rIxL K (.ref a) (.int i) H Q := ⟨_, _, _, _, rfl, rfl, h, e, q⟩
theorem ne_f (e : scal x y = true) (h : x = y) (q : Q (.bl false) H) : rNe x y H Q := ⟨e, by rw [decide_eq_true h]; exact q⟩
theorem ne_t (e : scal x y = true) (h : x ≠ y) (q : Q (.bl true) H) : rNe x y H Q := ⟨e, by rw [decide_eq_false h]; exact q⟩
theorem eq_t (e : scal x y = true) (h : x = y) (q : Q (.bl true) H) : rEq x y H Q := ⟨e, by rw [decide_eq_true h]; exact q⟩
theorem eq_f (e : scal x y = true) (h : x ≠ y) (q : Q (.bl false) H) : rEq x y H Q := ⟨e, by rw [decide_eq_false h]; exact q⟩
end
end FW
end

/-! ## W1d -/
section
set_option Elab.async false
set_option linter.all false
set_option maxRecDepth 100000
set_option maxHeartbeats 4000000
namespace FW
open PySem PySem.Spec PyProof.Rows L2 FF
/-! ### == over our data -/
mutual
theorem eqv_self : ∀ d : PyData, d.canLay0 = true → PyData.eqv d d = true
  | .none, _ => by simp [PyData.eqv]
  | .bool b, _ => by simp [PyData.eqv]
  | .int i, _ => by simp [PyData.eqv]
  | .str x, _ => by simp [PyData.eqv]
  | .list xs, h => by rw [PyData.eqv]; exact eqvAll_self xs (by simpa [PyData.canLay0] using h)
  | .tuple xs, h => by rw [PyData.eqv]; exact eqvAll_self xs (by simpa [PyData.canLay0] using h)
  | .dict _, h => by simp [PyData.canLay0] at h
theorem eqvAll_self : ∀ ds : List PyData, PyData.canLayAll0 ds = true → PyData.eqvAll ds ds = true
  | [], _ => by simp [PyData.eqvAll]
  | d :: ds, h => by
    simp only [PyData.canLayAll0, Bool.and_eq_true] at h
    rw [PyData.eqvAll, eqv_self d h.1, eqvAll_self ds h.2]; rfl
end
def Shp (n : Nat) (d : PyData) : Prop := d.canLay0 = true ∧ d.depth ≤ n
theorem Shp.shaped {n : Nat} {d : PyData} (h : Shp n d) (hn : n ≤ 64) : SeqAt.shaped d = true := by
  unfold SeqAt.shaped
  rw [h.1, decide_eq_true (Nat.le_trans h.2 hn)]; rfl
theorem Shp.int (i : Int) : Shp 1 (.int i) := ⟨rfl, by simp [PyData.depth]⟩
theorem shp_all {n : Nat} : ∀ {ds : List PyData}, (∀ d ∈ ds, Shp n d) → PyData.canLayAll0 ds = true ∧ PyData.depthAll ds ≤ n
  | [], _ => ⟨rfl, by simp [PyData.depthAll]⟩
  | d :: ds, h => by
    obtain ⟨a, b⟩ := shp_all fun e he => h e (List.mem_cons_of_mem _ he)
    obtain ⟨c, e⟩ := h d List.mem_cons_self
    refine ⟨by simp only [PyData.canLayAll0]; rw [c, a]; rfl, ?_⟩
    simp only [PyData.depthAll]
    omega
theorem Shp.tup {n : Nat} {ds : List PyData} (h : ∀ d ∈ ds, Shp n d) : Shp (n + 1) (.tuple ds) := by
  obtain ⟨a, b⟩ := shp_all h
  refine ⟨a, ?_⟩
  simp only [PyData.depth]
  omega
theorem Shp.lst {n : Nat} {ds : List PyData} (h : ∀ d ∈ ds, Shp n d) : Shp (n + 1) (.list ds) := by
  obtain ⟨a, b⟩ := shp_all h
  refine ⟨a, ?_⟩
  simp only [PyData.depth]
  omega
theorem Shp.mono {m n : Nat} {d : PyData} (h : Shp m d) (e : m ≤ n) : Shp n d := ⟨h.1, Nat.le_trans h.2 e⟩
theorem shp_num (q : Rat) : Shp 2 (numD q) := .tup fun d hd => by
  simp only [List.mem_cons, List.not_mem_nil, or_false] at hd
  rcases hd with rfl | rfl <;> exact .int _
theorem shp_part (p : Part) : Shp 3 (partD p) := .tup fun d hd => by
  simp only [List.mem_cons, List.not_mem_nil, or_false] at hd
  rcases hd with rfl | rfl
  · exact (Shp.int _).mono (by decide)
  · exact shp_num _
theorem shp_row (r : List Part) : Shp 4 (rowD r) := .tup fun d hd => by
  obtain ⟨p, _, rfl⟩ := List.mem_map.mp hd
  exact shp_part p
theorem shp_sheet (n : Nat) (rows : List (List Part)) : Shp 6 (sheetD n rows) := .tup fun d hd => by
  simp only [List.mem_cons, List.not_mem_nil, or_false] at hd
  rcases hd with rfl | rfl
  · exact (Shp.int _).mono (by decide)
  · refine .tup fun d hd => ?_
    obtain ⟨p, _, rfl⟩ := List.mem_map.mp hd
    exact shp_row p
theorem shp_w1 (x : W1) : Shp 5 (w1D x) := .tup fun d hd => by
  simp only [List.mem_cons, List.not_mem_nil, or_false] at hd
  rcases hd with rfl | rfl | rfl | rfl
  · exact (Shp.int _).mono (by decide)
  · exact (shp_num _).mono (by decide)
  · exact shp_row _
  · exact shp_row _
theorem eqv_num (x y : Rat) : PyData.eqv (numD x) (numD y) = decide (x = y) := by
  show PyData.eqv (.tuple _) (.tuple _) = _
  simp only [PyData.eqv, PyData.eqvAll, Bool.and_true]
  by_cases h : x = y
  · subst h; simp
  · rw [decide_eq_false h]
    by_cases h1 : x.num = y.num
    · have h2 : x.den ≠ y.den := fun h2 => h (Rat.ext h1 h2)
      simp only [h1, beq_self_eq_true, Bool.true_and, beq_eq_false_iff_ne]
      omega
    · simp [h1]
section
variable {K : PySem.W.Frag} {H : Hp} {v u : V} {d e : PyData} {Q : VK} {n : Nat}
theorem rd_eq (hv : Im K H v d) (hu : Im K H u d) (hs : Shp n d) (hn : n ≤ 64) (q : Q (.bl true) H) : rEqD K v u H Q :=
  ⟨d, d, hv.dp, hu.dp, hs.shaped hn, hs.shaped hn, by rw [eqv_self d hs.1]; exact q⟩
theorem rd_ne (hv : Im K H v d) (hu : Im K H u d) (hs : Shp n d) (hn : n ≤ 64) (q : Q (.bl false) H) : rNeD K v u H Q :=
  ⟨d, d, hv.dp, hu.dp, hs.shaped hn, hs.shaped hn, by rw [eqv_self d hs.1]; exact q⟩
theorem rd_num {x y : Rat} (hv : Im K H v (numD x)) (hu : Im K H u (numD y)) (q : Q (.bl (!decide (x = y))) H) : rNeD K v u H Q :=
  ⟨_, _, hv.dp, hu.dp, (shp_num x).shaped (by decide), (shp_num y).shaped (by decide), by rw [eqv_num]; exact q⟩
theorem rd_nume {x y : Rat} (hv : Im K H v (numD x)) (hu : Im K H u (numD y)) (q : Q (.bl (decide (x = y))) H) : rEqD K v u H Q :=
  ⟨_, _, hv.dp, hu.dp, (shp_num x).shaped (by decide), (shp_num y).shaped (by decide), by rw [eqv_num]; exact q⟩
end
theorem num0 : numD 0 = .tuple [.int 0, .int 1] := rfl
theorem num1 : numD 1 = .tuple [.int 1, .int 1] := rfl
theorem im_nought {K : PySem.W.Frag} {a : Addr} (s : ∀ H, SqT K H a [.int 0, .int 1]) (H : Hp) : Im K H (.ref a) (numD 0) := .tup (s H) (.cons (.int 0) (.cons (.int 1) .nil))
theorem im_one {K : PySem.W.Frag} {a : Addr} (s : ∀ H, SqT K H a [.int 1, .int 1]) (H : Hp) : Im K H (.ref a) (numD 1) := .tup (s H) (.cons (.int 1) (.cons (.int 1) .nil))
end FW
end

/-! ## W1s -/
section
set_option Elab.async false
set_option linter.all false
set_option maxRecDepth 100000
set_option maxHeartbeats 4000000
namespace FW
open PySem PySem.Spec PyProof.Rows L2 FF
/-! ### set(l) of a list of ints (follows HandS.SetFor's call_set_tupI, line by line, for a list) -/
section
variable {P : Program} {w : World} {A : Around} {E : Value → Shared → Prop} {s : Shared}
theorem call_set_lstI {l : Addr} {items : Array Value} (ns : List Int) {Q : Value → Shared → Prop} (hh : A.handled = none) (hl : s.heap.IsList l items) (hit : IntsAre items.toList ns) (hb : ns.length + 1 < scanBound)
    (h : ∀ (h' : Heap) (tk c : Nat), SetR w h' s.heap.objs.size (fun j => decide (j ∈ ns)) c → c ≤ ns.length → (∀ b o, s.heap.get? b = some o → h'.get? b = some o) → Q (.ref s.heap.objs.size) { s with heap := h', toks := tk }) :
    wpAny (model P w) A (call (.type "set") [.ref l]) Q E s := by
  have hisz : items.size = ns.length := by
    have q := IntsAre.length hit
    rw [Array.length_toList] at q
    exact q
  obtain ⟨c, tl, hmro⟩ := F.called_set.mro
  have hmade := F.called_set.made
  have hsub := F.called_set.sub
  refine wpAny_call (codeAny_of_tree ?_)
  show wpAny _ _ (callAny (.type "set") _) _ _ _
  refine wpAny_pure ⟨Code.quiet_builtin _ (by decide +kernel), codeAny_builtin F.entry_type_call ?_⟩
  rw [Around.under_plain (weight_type_call_type "set" [.ref l] []) rfl]
  have h1 := F.called_set.notType
  have h2 := F.called_set.canCreate
  have hct := F.typeCall_set_1 (.ref l)
  repeat (any_goals (first | assumption | wp_step))

  refine codeAny_mono (code_set_led1 (.ref l) (E := E) (Q₁ := fun obj s₁ => obj = .ref s.heap.objs.size ∧ s₁ = { s with heap := s.heap.push { cls := .type "set", dict := none, data := .set #[] 0 (.fresh 0 0 (!w.params.followText "set-order")) } }) ⟨rfl, rfl⟩) fun r s₁ hr => ?_
  cases r with
  | error e => exact hr
  | ok fl =>
    cases fl with
    | ret obj =>
      obtain ⟨rfl, rfl⟩ := hr
      have hS : (s.heap.push { cls := .type "set", dict := none, data := .set #[] 0 (.fresh 0 0 (!w.params.followText "set-order")) }).get? s.heap.objs.size = some { cls := .type "set", dict := none, data := .set #[] 0 (.fresh 0 0 (!w.params.followText "set-order")) } := Heap.get?_push_size _ rfl
      have hT : Shared.TypeIs { s with heap := s.heap.push { cls := .type "set", dict := none, data := .set #[] 0 (.fresh 0 0 (!w.params.followText "set-order")) } } (.ref s.heap.objs.size) "set" := ⟨_, hS, rfl⟩
      have hli := F.called_set.init.lookup
      have hbi := F.called_set.init.bind (.ref s.heap.objs.size)
      repeat (any_goals (first | assumption | wp_step))

      refine codeAny_mono (codeAny_call_builtin (R := wants (fun r s₂ => r = .none ∧ ∃ h' tk c, s₂ = { s with heap := h', toks := tk } ∧ SetR w h' s.heap.objs.size (fun j => decide (j ∈ ns)) c ∧ c ≤ ns.length ∧
          (∀ b o, s.heap.get? b = some o → h'.get? b = some o)) E) F.called_set.init.plain F.entry_set_init (check_set_init_1 hT ?_)) fun r₂ s₂ hr₂ => ?_
      · obtain ⟨ol, hol, hcl, nl, hdl⟩ := hl
        obtain ⟨ocls, odict, odata, oslots⟩ := ol
        simp only at hcl hdl
        subst hcl; subst hdl
        have hol' : (s.heap.push { cls := .type "set", dict := none, data := .set #[] 0 (.fresh 0 0 (!w.params.followText "set-order")) }).get? l = some { cls := .type "list", dict := odict, data := .seq items nl, slots := oslots } := Heap.get?_push_of_some _ hol
        have hsls := F.sub_list_set
        have hslf := F.sub_list_frozenset
        have hne : (Value.type "list" == Value.type "dict") = false := by decide
        have hl1 : (s.heap.push { cls := .type "set", dict := none, data := .set #[] 0 (.fresh 0 0 (!w.params.followText "set-order")) }).IsList l items := ⟨_, hol', rfl, nl, rfl⟩
        unfold Builtin.«set.__init__» noKeywords Builtin.Frozenset.updateFrom
        generalize hPI : pyIter = PI
        wp_walk
        subst hPI

        refine wpAny_pyIter_list hl1 ?_
        refine wpAny_bind (wpAny_runValue ?_)
        have hlS : l < s.heap.objs.size := Heap.lt_size hol
        have hh3 : A.in1.in1.in1.handled = none := by simp [hh]
        have hz1 : (s.heap.push { cls := .type "set", dict := none, data := .set #[] 0 (.fresh 0 0 (!w.params.followText "set-order")) }).objs.size = s.heap.objs.size + 1 := Heap.size_push ..
        have hneI : l ≠ (s.heap.push { cls := .type "set", dict := none, data := .set #[] 0 (.fresh 0 0 (!w.params.followText "set-order")) }).objs.size := by
          rw [Heap.size_push]; exact Nat.ne_of_lt (Nat.lt_succ_of_lt hlS)
        have hSf : s.heap.objs.size ∉ [(s.heap.push { cls := .type "set", dict := none, data := .set #[] 0 (.fresh 0 0 (!w.params.followText "set-order")) }).objs.size, l] := by
          rw [Heap.size_push]; simp only [List.mem_cons, List.mem_singleton, List.not_mem_nil, or_false, not_or]
          exact ⟨Nat.ne_of_lt (Nat.lt_succ_self _), Nat.ne_of_gt hlS⟩
        have hval : ∀ (i : Nat) (v : Value), items[i]? = some v → ∃ k t, ns[i]? = some k ∧ v = .int k t := fun i v hv => by
          have hi : i < ns.length := by rw [← hisz]; exact (Array.getElem?_eq_some_iff.mp hv).1
          obtain ⟨t, e⟩ := PyProof.Rows.IntsAre.int_at hit i v (by rw [Array.getElem?_toList]; exact hv)
          refine ⟨ns[i], t, List.getElem?_eq_getElem hi, ?_⟩
          rw [e, List.getD_eq_getElem?_getD, List.getElem?_eq_getElem hi] <;> rfl
        refine set_update_ints ((Walks.list hh3 _ l hneI items).toS) s.heap.objs.size
          hSf ns hisz hb hval (items.size - 0) 0 _ (by omega) (Nat.zero_le _)
          ⟨⟨_, Heap.get?_push_size _ rfl, rfl, rfl⟩, (hl1.push _)⟩ ?hS0 ?hR
        case hS0 =>
          have hget : ((s.heap.push { cls := .type "set", dict := none, data := .set #[] 0 (.fresh 0 0 (!w.params.followText "set-order")) }).push { cls := .type "list_iterator", data := .fields #[.ref l, .int 0 0] }).get? s.heap.objs.size
              = some { cls := .type "set", dict := none, data := .set #[] 0 (.fresh 0 0 (!w.params.followText "set-order")) } := Heap.get?_push_of_some _ hS
          exact ⟨0, Nat.le_refl 0, setR_new_at hget⟩
        case hR =>
          intro s' c' hm hc' hS'
          obtain ⟨h', g2, d', tk', os'⟩ := s'
          have eg : g2 = s.gens := hm.gens
          have ed : d' = s.drawn := hm.drawn
          have eo : os' = s.os := hm.os
          subst eg; subst ed; subst eo
          show wpAny _ _ _ _ _ _
          refine wpAny_pure ?_
          show wpAny _ _ (ret Value.none) _ _ _
          rw [hisz] at hc'
          refine wpAny_pure ⟨rfl, h', tk', c', rfl, hS', hc', fun b o e => ?_⟩
          have hb0 : b < s.heap.objs.size := Heap.lt_size e
          have hb1 : b ≠ s.heap.objs.size := Nat.ne_of_lt hb0
          have hb2 : b ≠ (s.heap.push { cls := .type "set", dict := none, data := .set #[] 0 (.fresh 0 0 (!w.params.followText "set-order")) }).objs.size := by
            rw [Heap.size_push]; exact Nat.ne_of_lt (Nat.lt_succ_of_lt hb0)
          exact hm.heap b o (by simp only [List.mem_cons, List.mem_singleton, List.not_mem_nil, or_false, not_or]; exact ⟨hb1, hb2⟩) (Heap.get?_push_of_some _ (Heap.get?_push_of_some _ e))

      · cases r₂ with
        | error e => exact hr₂
        | ok fl₂ =>
          cases fl₂ with
          | ret r =>
            obtain ⟨rfl, h', tk, c', rfl, hS', hc', hk'⟩ := hr₂
            repeat (any_goals (first | assumption | wp_step))
            exact h _ _ _ hS' hc' hk'
          | _ => exact hr₂.elim
    | _ => exact hr.elim

end
section
variable {X : Cx}
/-- set(l), l a list of ints -/
def rSetLI (K : PySem.W.Frag) (w : World) : List V → Hp → VK → Prop := fun xs H Q => ∃ (l : Addr) (ns : List Int), xs = [V.ref l] ∧ SqL K H l (ns.map V.int) ∧ ns.length ≤ 60 ∧ ∀ p c, H p = none → c ≤ ns.length → Q (.ref p) (upd H p (SetO w p (fun j => decide (j ∈ ns)) c))
theorem cr_setLI (hc : X.calm = true) : CallR X (.type "set") (rSetLI X.K X.w) := by
  intro pins s σ H xs us Q I r h
  obtain ⟨l, ns, rfl, hl, h64, q⟩ := h
  rw [Vals.ref1 r]
  obtain ⟨its, rv, pl, hz⟩ := I.list hl
  have hi : IntsAre its.toArray.toList ns := ints_of_vals rv
  refine call_set_lstI ns (I.ok.hd hc) pl.isList hi (by unfold scanBound; omega) fun h' tk c R1 hcn k => ?_
  have hn : H s.heap.objs.size = none := I.hok.fresh (Nat.le_refl _)
  exact ⟨.ref s.heap.objs.size, _, I.laid (t' := tk) (fun b u e => k b u e) (Nat.le_refl _) (setO_new R1), rfl, q _ c hn hcn⟩
end
end FW
end

/-! ## W1l -/
section
set_option Elab.async false
set_option linter.all false
set_option maxRecDepth 100000
set_option maxHeartbeats 4000000
namespace FW
open PySem PySem.Spec PyProof.Rows L2 FF
/-! ### a list that grows behind what was known -/
def Acc (H1 : Hp) (D : Addr) (P : Nat → V → Hp → Prop) (ks : List Nat) (H : Hp) : Prop := Same H1 H ∧ ∃ ys : List V, H D = some (.lst ys) ∧ ys.length = ks.length ∧ ∀ (j : Nat) (y : V) (k : Nat), ys[j]? = some y → ks[j]? = some k → P k y H
section
variable {K : PySem.W.Frag} {H1 H H4 : Hp} {D : Addr} {P : Nat → V → Hp → Prop} {i : Nat} {ks : List Nat} {y : V}
theorem Acc.zero (hD : H1 D = none) : Acc H1 D P [] (upd H1 D (.lst [])) := ⟨same_new hD, [], upd_same, rfl, fun j y k e => by simp at e⟩
theorem Acc.step (hD : H1 D = none) (m1 : ∀ i y H H', Same H H' → P i y H → P i y H') (m2 : ∀ i y H acc acc', H D = some (.lst acc) → P i y H → P i y (upd H D (.lst acc'))) (h : Acc H1 D P ks H) (s : Same H H4) (p : P i y H4) (hi : ks.length ≤ 1000) :
    ∃ acc, H4 D = some (.lst acc) ∧ acc.length < sizeLine ∧ Acc H1 D P (ks ++ [i]) (upd H4 D (.lst (acc ++ [y]))) := by
  obtain ⟨s1, ys, e, l, q⟩ := h
  refine ⟨ys, s D _ e, small1000 (by omega), Same.mut (s1.trans s) hD, ys ++ [y], upd_same, by simp [l], fun j z k ez ek => ?_⟩
  refine m2 _ _ _ ys _ (s D _ e) ?_
  by_cases hj : j < ys.length
  · rw [List.getElem?_append_left hj] at ez
    rw [List.getElem?_append_left (by omega)] at ek
    exact m1 _ _ _ _ s (q j z k ez ek)
  · have : j = ys.length := by
      have := (List.getElem?_eq_some_iff.mp ez).1
      simp at this
      omega
    subst this
    rw [List.getElem?_append_right (Nat.le_refl _)] at ez
    rw [l, List.getElem?_append_right (Nat.le_refl _)] at ek
    simp at ez ek
    subst ez ek
    exact p
theorem Acc.skip (hD : H1 D = none) (m1 : ∀ i y H H', Same H H' → P i y H → P i y H') (h : Acc H1 D P ks H) (s : Same H H4) : Acc H1 D P ks H4 := by
  obtain ⟨s1, ys, e, l, q⟩ := h
  exact ⟨s1.trans s, ys, s D _ e, l, fun j z k ez ek => m1 _ _ _ _ s (q j z k ez ek)⟩
theorem Acc.same (h : Acc H1 D P ks H) : Same H1 H := h.1
end
/-- a comprehension with its test; nothing that stood moves -/
theorem lc_f {J : It} {n : Nat} {G : Hp → Prop} {Y : Nat → Hp → V → Hp → Prop} (w : Walk J n G Y) {g : TG} {tt : L2.TT} {te : TE} {vs : List Nat} {σ : L2.St} {H1 : Hp} {D : Addr} {Qd : Hp → Prop} (kp : Nat → Bool) (P : Nat → V → Hp → Prop)
    (m1 : ∀ i y H H', Same H H' → P i y H → P i y H') (m2 : ∀ i y H acc acc', H D = some (.lst acc) → P i y H → P i y (upd H D (.lst acc'))) (hD : H1 D = none) (hn : n ≤ 1000) (hG : ∀ H, Same H1 H → G H)
    (hs : ∀ i x H H' (Qy : VK) (Qn : Hp → Prop), i < n → Same H1 H → Y i H x H' → (kp i = true → ∀ y H4, Same H H4 → P i y H4 → Qy y H4) → (kp i = false → ∀ H4, Same H H4 → Qn H4) →
      g x (wipe σ vs) H' fun σ2 H2 => wipe σ2 vs = wipe σ vs ∧ tt σ2 H2 fun b H3 => if b = true then te σ2 H3 Qy else Qn H3)
    (hd : ∀ H, Acc H1 D P ((List.range n).filter kp) H → Qd H) :
    ∃ W : Nat → Nat → Hp → Prop, (∃ m, W 0 m (upd H1 D (.lst []))) ∧ ∀ i m H, W i m H →
      (J.stop i H ∧ Qd H) ∨ (J.go i H ∧ ∃ Nx : Hp → Prop, (∀ H', Nx H' → ∃ m', m' < m ∧ W (i + 1) m' H') ∧ ∀ x H', J.yld i H x H' → g x (wipe σ vs) H' fun σ2 H2 => wipe σ2 vs = wipe σ vs ∧ tt σ2 H2 fun b H3 =>
        if b = true then te σ2 H3 fun y H4 => ∃ acc, H4 D = some (.lst acc) ∧ acc.length < sizeLine ∧ Nx (upd H4 D (.lst (acc ++ [y]))) else Nx H3) := by
  refine lc_it w (fun i H => Acc H1 D P ((List.range i).filter kp) H) (Acc.zero hD) (fun i H _ h => hG H h.1) (fun i x H H' hi h y => ?_) hd
  refine hs i x H H' _ _ hi h.1 y (fun e z H4 s p => ?_) (fun e H4 s => ?_)
  · rw [List.range_succ, List.filter_append, show [i].filter kp = [i] by simp [e]]
    exact Acc.step hD m1 m2 h s p (by
      have := List.length_filter_le kp (List.range i)
      simp at this
      omega)
  · rw [List.range_succ, List.filter_append, show [i].filter kp = [] by simp [e], List.append_nil]
    exact h.skip hD m1 s
/-- .. without a test -/
theorem lc_a {J : It} {n : Nat} {G : Hp → Prop} {Y : Nat → Hp → V → Hp → Prop} (w : Walk J n G Y) {g : TG} {te : TE} {vs : List Nat} {σ : L2.St} {H1 : Hp} {D : Addr} {Qd : Hp → Prop} (P : Nat → V → Hp → Prop)
    (m1 : ∀ i y H H', Same H H' → P i y H → P i y H') (m2 : ∀ i y H acc acc', H D = some (.lst acc) → P i y H → P i y (upd H D (.lst acc'))) (hD : H1 D = none) (hn : n ≤ 1000) (hG : ∀ H, Same H1 H → G H)
    (hs : ∀ i x H H' (Qy : VK), i < n → Same H1 H → Y i H x H' → (∀ y H4, Same H H4 → P i y H4 → Qy y H4) → g x (wipe σ vs) H' fun σ2 H2 => wipe σ2 vs = wipe σ vs ∧ te σ2 H2 Qy)
    (hd : ∀ H, Acc H1 D P (List.range n) H → Qd H) :
    ∃ W : Nat → Nat → Hp → Prop, (∃ m, W 0 m (upd H1 D (.lst []))) ∧ ∀ i m H, W i m H →
      (J.stop i H ∧ Qd H) ∨ (J.go i H ∧ ∃ Nx : Hp → Prop, (∀ H', Nx H' → ∃ m', m' < m ∧ W (i + 1) m' H') ∧ ∀ x H', J.yld i H x H' → g x (wipe σ vs) H' fun σ2 H2 => wipe σ2 vs = wipe σ vs ∧ tYes σ2 H2 fun b H3 =>
        if b = true then te σ2 H3 fun y H4 => ∃ acc, H4 D = some (.lst acc) ∧ acc.length < sizeLine ∧ Nx (upd H4 D (.lst (acc ++ [y]))) else Nx H3) :=
  lc_f w (tt := tYes) (fun _ => true) P m1 m2 hD hn hG (fun i x H H' Qy Qn hi s y k _ => hs i x H H' Qy hi s y (k rfl)) fun H h => hd H (by
    rw [List.filter_eq_self.mpr (fun _ _ => rfl)] at h
    exact h)
/-- data that does not move -/
def PIm (K : PySem.W.Frag) (f : Nat → PyData) : Nat → V → Hp → Prop := fun i y H => Im K H y (f i)
def PBl (b : Nat → Bool) : Nat → V → Hp → Prop := fun i y _ => y = .bl (b i)
section
variable {K : PySem.W.Frag} {D : Addr} {f : Nat → PyData} {b : Nat → Bool} {ks : List Nat}
theorem PIm.m1 : ∀ i y H H', Same H H' → PIm K f i y H → PIm K f i y H' := fun _ _ _ _ s p => p.mono s.tup
theorem PIm.m2 : ∀ i y H acc acc', H D = some (.lst acc) → PIm K f i y H → PIm K f i y (upd H D (.lst acc')) := fun _ _ _ _ _ e p => p.mono (.lst e)
theorem PBl.m1 : ∀ i y H H', Same H H' → PBl b i y H → PBl b i y H' := fun _ _ _ _ _ p => p
theorem PBl.m2 : ∀ i y H acc acc', H D = some (.lst acc) → PBl b i y H → PBl b i y (upd H D (.lst acc')) := fun _ _ _ _ _ _ p => p
theorem imAll_get {H : Hp} : ∀ {ys : List V} {ds : List PyData}, ys.length = ds.length → (∀ (j : Nat) (y : V) (d : PyData), ys[j]? = some y → ds[j]? = some d → Im K H y d) → ImAll K H ys ds
  | [], [], _, _ => .nil
  | y :: ys, d :: ds, l, h => .cons (h 0 y d rfl rfl) (imAll_get (by simpa using l) fun j y' d' e1 e2 => h (j + 1) y' d' (by simpa using e1) (by simpa using e2))
  | [], _ :: _, l, _ => by simp at l
  | _ :: _, [], l, _ => by simp at l
/-- what a comprehension of such data ends with -/
theorem Acc.im {H1 H : Hp} (h : Acc H1 D (PIm K f) ks H) : ∃ ys, Same H1 H ∧ H D = some (.lst ys) ∧ ImAll K H ys (ks.map f) := by
  obtain ⟨s, ys, e, l, q⟩ := h
  refine ⟨ys, s, e, imAll_get (by simpa using l) fun j y d e1 e2 => ?_⟩
  rw [List.getElem?_map] at e2
  cases ek : ks[j]? with
  | none => rw [ek] at e2; cases e2
  | some k =>
    rw [ek] at e2
    cases e2
    exact q j y k e1 ek
theorem Acc.bl {H1 H : Hp} (h : Acc H1 D (PBl b) ks H) : Same H1 H ∧ H D = some (.lst ((ks.map b).map V.bl)) := by
  obtain ⟨s, ys, e, l, q⟩ := h
  refine ⟨s, ?_⟩
  rw [e]
  congr 2
  apply List.ext_getElem?
  intro j
  by_cases hj : j < ys.length
  · have e1 := List.getElem?_eq_getElem hj
    have hj' : j < ks.length := by omega
    have := q j _ _ e1 (List.getElem?_eq_getElem hj')
    unfold PBl at this
    rw [e1, this, List.getElem?_map, List.getElem?_map, List.getElem?_eq_getElem hj']
    rfl
  · rw [List.getElem?_eq_none (by omega), List.getElem?_eq_none (by simp; omega)]
/-- .. all true -/
theorem Acc.allT {H1 H : Hp} (h : Acc H1 D (PBl fun _ => true) ks H) : Same H1 H ∧ ∃ bs : List Bool, H D = some (.lst (bs.map V.bl)) ∧ bs.all id = true := by
  obtain ⟨s, e⟩ := h.bl
  exact ⟨s, _, e, by simp⟩
end
theorem inc_eq {l m : List Int} (h1 : l.Pairwise (· < ·)) (h2 : m.Pairwise (· < ·)) (h : ∀ k, k ∈ l ↔ k ∈ m) : l = m :=
  List.Perm.eq_of_pairwise (le := (· < ·)) (fun a b _ _ x y => by omega) h1 h2 ((List.perm_ext_iff_of_nodup (h1.imp fun h => Int.ne_of_lt h) (h2.imp fun h => Int.ne_of_lt h)).mpr h)
theorem part_eq {l m : List Part} (h1 : (l.map (·.1)).Pairwise (· < ·)) (h2 : (m.map (·.1)).Pairwise (· < ·)) (h : l.Perm m) : l = m := by
  rw [List.pairwise_map] at h1 h2
  exact List.Perm.eq_of_pairwise (le := fun a b => a.1 < b.1) (fun a b _ _ x y => by omega) h1 h2 h
/-- values told outright -/
def PVl (f : Nat → V) : Nat → V → Hp → Prop := fun i y _ => y = f i
section
variable {K : PySem.W.Frag} {D : Addr} {f : Nat → V} {ks : List Nat}
theorem PVl.m1 : ∀ i y H H', Same H H' → PVl f i y H → PVl f i y H' := fun _ _ _ _ _ p => p
theorem PVl.m2 : ∀ i y H acc acc', H D = some (.lst acc) → PVl f i y H → PVl f i y (upd H D (.lst acc')) := fun _ _ _ _ _ _ p => p
theorem Acc.vl {H1 H : Hp} (h : Acc H1 D (PVl f) ks H) : Same H1 H ∧ H D = some (.lst (ks.map f)) := by
  obtain ⟨s, ys, e, l, q⟩ := h
  refine ⟨s, ?_⟩
  rw [e]
  congr 2
  apply List.ext_getElem?
  intro j
  by_cases hj : j < ys.length
  · have e1 := List.getElem?_eq_getElem hj
    have hj' : j < ks.length := by omega
    have := q j _ _ e1 (List.getElem?_eq_getElem hj')
    unfold PVl at this
    rw [e1, this, List.getElem?_map, List.getElem?_eq_getElem hj']
    rfl
  · rw [List.getElem?_eq_none (by omega), List.getElem?_eq_none (by simp; omega)]
end
theorem map_range_v {α : Type} (l : List α) (f : α → V) (d : α) : (List.range l.length).map (fun i => f (l.getD i d)) = l.map f := by
  apply List.ext_getElem?
  intro j
  rw [List.getElem?_map]
  by_cases hj : j < l.length
  · rw [show (List.range l.length)[j]? = some j by simp [hj]]
    simp [hj]
  · rw [List.getElem?_eq_none (by simp; omega), List.getElem?_eq_none (by simp; omega)]
    rfl
theorem dp_ints {K : PySem.W.Frag} {H : Hp} : ∀ (l : List Int), DpAll K H (l.map V.int) (l.map PyData.int)
  | [] => .nil
  | i :: l => .cons (.int i) (dp_ints l)
theorem eqv_ints {l : List Int} : PyData.eqv (.list (l.map PyData.int)) (.list (l.map PyData.int)) = true := eqv_self _ (Shp.lst (n := 1) fun d hd => by
  obtain ⟨i, _, rfl⟩ := List.mem_map.mp hd
  exact .int i).1
theorem shp_ints (l : List Int) : Shp 2 (.list (l.map PyData.int)) := Shp.lst (n := 1) fun d hd => by
  obtain ⟨i, _, rfl⟩ := List.mem_map.mp hd
  exact .int i
theorem walk_enumT {K : PySem.W.Frag} {a : Addr} {xs : List V} : Walk (IteT K a) xs.length (fun H => SqT K H a xs) (YPair (fun i => some (.int (i : Nat))) (fun i => xs[i]?)) := by
  refine ⟨fun i _ hi q => ⟨xs, xs[i], q, by simp [hi]⟩, fun _ q => ⟨xs, q, rfl⟩, fun i H v H' _ q y => ?_⟩
  obtain ⟨T, x, h1, h2, h3, h4⟩ := y
  exact ⟨T, .int (i : Nat), x, h1, h2, h3, rfl, h4 xs q⟩
theorem len_ok {xs : List V} {n : Nat} (h : xs.length = n) (hn : n ≤ 1000) : xs.length ≤ sizeLine := by rw [h, sizeLine_eq]; omega
theorem range_get {n i : Nat} (h : i < n) : (List.range n)[i]? = some i := by simp [h]
theorem map_range_get {α : Type} (l : List α) (f : α → PyData) : (List.range l.length).map (fun i => (l.map f).getD i .none) = l.map f := by
  apply List.ext_getElem?
  intro j
  rw [List.getElem?_map]
  by_cases hj : j < l.length
  · rw [range_get hj]
    simp [hj]
  · rw [List.getElem?_eq_none (by simp; omega), List.getElem?_eq_none (by simp; omega)]
    rfl
end FW
end

/-! ## W2 -/
section
set_option Elab.async false
set_option linter.all false
set_option maxRecDepth 100000
set_option maxHeartbeats 4000000
namespace FW
open PySem PySem.Spec PyProof.Rows L2 FF
section
variable {P : Program} {w : World} {K : PySem.W.Frag} {mg : Str → Option Value} {base : Heap}
theorem ite_t {p : Prop} {d : Decidable p} {A B : Prop} (h : p) (x : A) : if decide p = true then A else B := by rw [if_pos (decide_eq_true h)]; exact x
theorem ite_f {p : Prop} {d : Decidable p} {A B : Prop} (h : ¬ p) (x : B) : if decide p = true then A else B := by rw [if_neg (by rw [decide_eq_false h]; decide)]; exact x
/-! ### is_whole -/
def sp_is_whole (K : PySem.W.Frag) : Sp := fun vs H Q _ => ∃ i : Int, vs = [.int i] ∧ Q (.bl true) H
abbrev s_is_whole : Stmt := topS 10
theorem sc_is_whole : FnScope ["thing"] ["thing"] (defScope s_is_whole) := ⟨rfl, rfl, rfl, by decide +kernel, rfl, by decide +kernel, by decide +kernel⟩
theorem fn_is_whole (T : Tops K mg) : Fn P w K mg base CX0 1 "is_whole" ["thing"] (sp_is_whole K) := by
  refine T.d_is_whole.fn sc_is_whole (fun _ _ _ _ _ _ us hl => match us, hl with | [_], _ => rfl) (fun vs H Q E h => ?_) (fun f cdv A outer s H vs Q E hr h => ?_)
  · obtain ⟨i, rfl, _⟩ := h; rfl
  · obtain ⟨i, rfl, q⟩ := h
    refine ⟨_, (pss_one (ps_ret (pe_and (pe_callB call_isiK1 (by rfl) T.B.isinstance bo_isinstance (pa_cons (pv 0) (pa_cons (pe_bltn (v := .ty "int") (by rfl) T.B.int bo_int rfl) pa_nil))) (pe_one (pe_not (pe_callB call_isiK1 (by rfl) T.B.isinstance bo_isinstance (pa_cons (pv 0) (pa_cons (pe_bltn (v := .ty "bool") (by rfl) T.B.bool bo_bool rfl) pa_nil)))))))), ?_⟩
    exact ⟨.int i, rfl, _, _, _, _, true, rfl, .ty _, .base (.int i), kit_ty (by decide +kernel), true, rfl, .int i, rfl, _, _, _, _, false, rfl, .ty _, .base (.int i), kit_ty (by decide +kernel), false, rfl, q⟩
/-! ### shared -/
def sp_shared (K : PySem.W.Frag) : Sp := fun vs H Q _ => ∃ a b : Int, vs = [.int a, .int b] ∧ Q (.int (Int.gcd a b : Nat)) H
theorem abs_if (i : Int) : (if i < 0 then -i else i) = (i.natAbs : Int) := by split <;> omega
theorem fmod_gcd (x y : Nat) : Int.fmod (x : Int) (y : Int) = ((x % y : Nat) : Int) := by
  rw [Int.fmod_eq_emod_of_nonneg _ (by omega)]; rfl
abbrev s_shared : Stmt := topS 11
theorem sc_shared : FnScope ["one", "other"] ["one", "other"] (defScope s_shared) := ⟨rfl, rfl, rfl, by decide +kernel, rfl, by decide +kernel, by decide +kernel⟩
theorem fn_shared (T : Tops K mg) : Fn P w K mg base CX0 1 "shared" ["one", "other"] (sp_shared K) := by
  refine T.d_shared.fn sc_shared (fun _ _ _ _ _ _ us hl => match us, hl with | [_, _], _ => rfl) (fun vs H Q E h => ?_) (fun f cdv A outer s H vs Q E hr h => ?_)
  · obtain ⟨a, b, rfl, _⟩ := h; rfl
  · obtain ⟨a, b, rfl, q⟩ := h
    refine ⟨_, (pss_cons (ps_set (i := 0) sc_shared.nd rfl (.inl rfl) (pe_callB call_abs (by rfl) T.B.abs bo_abs (pa_cons (pv 0) pa_nil)))
  (pss_cons (ps_set (i := 1) sc_shared.nd rfl (.inl rfl) (pe_callB call_abs (by rfl) T.B.abs bo_abs (pa_cons (pv 1) pa_nil)))
  (pss_cons (ps_while PassesOwn.never (pt_cmpR op_gt (pv 1) pe_int (nomark _))
  (pss_one (ps_par (i := 0) (j := 1) rfl sc_shared.nd rfl rfl (by decide) rfl rfl (pa_cons (pv 1) (pa_cons (pe_op op_modN (pv 0) (pv 1)) pa_nil)) (by rfl))))
  (pss_one (ps_ret (pv 0)))))), ?_⟩
    refine ⟨.int a, rfl, a, rfl, .int b, rfl, b, rfl, ?_⟩
    rw [abs_if, abs_if]
    refine while_by (fun σ H' => ∃ x y : Nat, σ = [some (.int x), some (.int y)] ∧ H' = H ∧ Nat.gcd x y = Int.gcd a b) (fun σ _ => match σ with | [_, some (.int y)] => y.toNat | _ => 0) ⟨a.natAbs, b.natAbs, rfl, rfl, rfl⟩ ?_ ?_
    · rintro σ H' ⟨x, y, rfl, rfl, e⟩
      refine ⟨.int y, rfl, _, _, rfl, rfl, _, rfl, ?_⟩
      by_cases hy : (0 : Int) < (y : Int)
      · rw [decide_eq_true hy]
        refine iteT ⟨.int y, rfl, .int x, rfl, .int y, rfl, _, _, rfl, rfl, (by show ((y : Nat) : Int) ≠ 0; omega), _, _, rfl, ⟨y, x % y, ?_, rfl, ?_⟩, ?_⟩
        · show [some (V.int (y : Int)), some (V.int (Int.fmod (x : Int) (y : Int)))] = _
          rw [fmod_gcd]
        · rw [← e, Nat.gcd_comm x y, Nat.gcd_rec y x, Nat.gcd_comm]
        · show (Int.fmod (x : Int) (y : Int)).toNat < ((y : Nat) : Int).toNat
          rw [fmod_gcd]
          have := Nat.mod_lt x (show y > 0 by omega)
          omega
      · rw [decide_eq_false hy]
        refine iteF ⟨.int x, rfl, ?_⟩
        have : y = 0 := by omega
        subst this
        rw [Nat.gcd_zero_right] at e
        rw [← e] at q
        exact q
    · rintro σ H' Q1 Q2 h ⟨v, e, _, _, r1, r2, k, r3, q⟩
      exact ⟨v, e, _, _, r1, r2, k, r3, h _ _ q⟩
/-! ### is_number -/
def sp_is_number (K : PySem.W.Frag) : Sp := fun vs H Q _ => ∃ (v : V) (q : Rat), vs = [v] ∧ Im K H v (numD q) ∧ Q (.bl true) H
abbrev s_is_number : Stmt := topS 12
theorem sc_is_number : FnScope ["thing"] ["thing"] (defScope s_is_number) := ⟨rfl, rfl, rfl, by decide +kernel, rfl, by decide +kernel, by decide +kernel⟩
theorem fn_is_number (T : Tops K mg) : Fn P w K mg base CX0 2 "is_number" ["thing"] (sp_is_number K) := by
  have h_is_whole : Fn P w K mg base CX0 1 "is_whole" _ _ := (fn_is_whole T).mono (by decide)
  have h_shared : Fn P w K mg base CX0 1 "shared" _ _ := (fn_shared T).mono (by decide)
  refine T.d_is_number.fn sc_is_number (fun _ _ _ _ _ _ us hl => match us, hl with | [_], _ => rfl) (fun vs H Q E h => ?_) (fun f cdv A outer s H vs Q E hr h => ?_)
  · obtain ⟨v, x, rfl, _⟩ := h; rfl
  · obtain ⟨v, x, rfl, iv, q⟩ := h
    obtain ⟨a, rfl, ta⟩ := num_inv iv
    refine ⟨_, (pss_cons (ps_if (PW.pt (pw_or (pt_not (pt_val (pe_callB call_isiK1 (by rfl) T.B.isinstance bo_isinstance (pa_cons (pv 0) (pa_cons (pe_bltn (v := .ty "tuple") (by rfl) T.B.tuple bo_tuple rfl) pa_nil))))) (pw_or (pt_cmpR op_ne (pe_callB call_len_seqK (by rfl) T.B.len bo_len (pa_cons (pv 0) pa_nil)) pe_int (nomark _)) (pw_or (pt_not (pt_val (pe_fn h_is_whole hr pass0 (pa_cons (pe_ix ix_tupK (pv 0) pe_int (fun _ _ => rfl)) pa_nil)))) (pw_or1 (pt_not (pt_val (pe_fn h_is_whole hr pass0 (pa_cons (pe_ix ix_tupK (pv 0) pe_int (fun _ _ => rfl)) pa_nil)))))))))
  (pss_one (ps_ret pe_bl))
  pss_nil)
  (pss_one (ps_ret (pe_and (pe_cmpR op_gt (pe_ix ix_tupK (pv 0) pe_int (fun _ _ => rfl)) pe_int (nomark _)) (pe_one (pe_cmpR op_eq (pe_fn h_shared hr pass0 (pa_cons (pe_ix ix_tupK (pv 0) pe_int (fun _ _ => rfl)) (pa_cons (pe_ix ix_tupK (pv 0) pe_int (fun _ _ => rfl)) pa_nil))) pe_int (nomark _))))))), ?_⟩
    repeat' (first
      | exact q
      | refine ⟨_, _, _, _, rfl, rfl, (by assumption), rfl, ?_⟩
      | refine ⟨_, _, _, _, true, rfl, .ty _, (by first | exact .base (.int _) | exact ty_tup (by assumption) | exact ty_lst (by assumption)), kit_ty (by decide +kernel), ?_⟩
      | refine ⟨_, _, _, _, false, rfl, .ty _, (by first | exact .base (.int _) | exact ty_tup (by assumption) | exact ty_lst (by assumption)), kit_ty (by decide +kernel), ?_⟩
      | refine ⟨_, _, rfl, .inr (by assumption), ?_⟩
      | refine ⟨_, _, rfl, .inl (by assumption), ?_⟩
      | refine ⟨_, _, rfl, (by assumption), rfl, ?_⟩
      | refine ⟨_, rfl, ?_⟩
      | refine ⟨_, _, rfl, rfl, ?_⟩
      | refine ⟨Nat.le_of_ble_eq_true rfl, fun p hp => ?_⟩
      | refine ⟨_, _, rfl, ?_⟩
      | refine ⟨rfl, ?_⟩
      | refine ⟨mul_ok4 (by assumption) (by assumption), ?_⟩
      | fail)
    refine ite_t (by have := x.den_pos; omega) ?_
    repeat' (first
      | exact q
      | refine ⟨_, _, _, _, rfl, rfl, (by assumption), rfl, ?_⟩
      | refine ⟨_, _, _, _, true, rfl, .ty _, (by first | exact .base (.int _) | exact ty_tup (by assumption) | exact ty_lst (by assumption)), kit_ty (by decide +kernel), ?_⟩
      | refine ⟨_, _, _, _, false, rfl, .ty _, (by first | exact .base (.int _) | exact ty_tup (by assumption) | exact ty_lst (by assumption)), kit_ty (by decide +kernel), ?_⟩
      | refine ⟨_, _, rfl, .inr (by assumption), ?_⟩
      | refine ⟨_, _, rfl, .inl (by assumption), ?_⟩
      | refine ⟨_, _, rfl, (by assumption), rfl, ?_⟩
      | refine ⟨_, rfl, ?_⟩
      | refine ⟨_, _, rfl, rfl, ?_⟩
      | refine ⟨Nat.le_of_ble_eq_true rfl, fun p hp => ?_⟩
      | refine ⟨_, _, rfl, ?_⟩
      | refine ⟨rfl, ?_⟩
      | refine ⟨mul_ok4 (by assumption) (by assumption), ?_⟩
      | fail)
    rw [decide_eq_true (show V.int ((Int.gcd x.num x.den : Nat) : Int) = V.int 1 by
      rw [show Int.gcd x.num x.den = 1 from x.reduced]; rfl)]
    exact q
/-! ### number_of -/
theorem int_ne {a b : Int} (h : a ≠ b) : ¬ (V.int a = V.int b) := fun e => h (by injection e)
theorem mul_ok4 {a b : Int} (ha : a.natAbs < 2 ^ 4000) (hb : b.natAbs < 2 ^ 4000) : IntMulOk a b := mul_ok ha hb (by decide)
theorem den_ne (q : Rat) : (q.den : Int) ≠ 0 := by have := q.den_nz; omega
theorem den_na {q : Rat} (h : q.den < 2 ^ 4000) : ((q.den : Nat) : Int).natAbs < 2 ^ 4000 := h
theorem gdiv_pos {t b : Int} (h : b < 0) : gdiv t b = -((Int.gcd t b : Nat) : Int) := if_pos h
theorem gdiv_neg {t b : Int} (h : ¬ b < 0) : gdiv t b = ((Int.gcd t b : Nat) : Int) := if_neg h
/-- the two quotients, at a new tuple -/
theorem low_ret {K : PySem.W.Frag} {H : Hp} {Q : VK} {t b g : Int} (hb : b ≠ 0) (hs : Sm (Rat.divInt t b)) (hg : g = gdiv t b) (q : RetIm K (numD (Rat.divInt t b)) H Q) :
    CFd t g ∧ CFd b g ∧ ∀ p, H p = none → Q (.ref p) (upd H p (.tup [.int (t.fdiv g), .int (b.fdiv g)])) := by
  subst hg
  have g0 := gdiv_ne (t := t) hb
  refine ⟨⟨g0, ?_⟩, ⟨g0, ?_⟩, fun p hp => ?_⟩
  · have := fd_ok g0 hs.1
    rw [← gdiv_mul_num hb] at this
    exact this
  · have := fd_ok (q := ((Rat.divInt t b).den : Int)) g0 hs.2
    rw [← gdiv_mul_den hb] at this
    exact this
  · refine q _ _ (same_new hp) (num_new ?_)
    rw [upd_same, gdiv_num hb, gdiv_den hb]
def sp_number_of (K : PySem.W.Frag) : Sp := fun vs H Q _ => ∃ t b : Int, vs = [.int t, .int b] ∧ b ≠ 0 ∧ Sm (Rat.divInt t b) ∧ RetIm K (numD (Rat.divInt t b)) H Q
abbrev s_number_of : Stmt := topS 13
theorem sc_number_of : FnScope ["top", "bottom", "part"] ["top", "bottom"] (defScope s_number_of) := ⟨rfl, rfl, rfl, by decide +kernel, rfl, by decide +kernel, by decide +kernel⟩
theorem fn_number_of (T : Tops K mg) : Fn P w K mg base CX0 2 "number_of" ["top", "bottom"] (sp_number_of K) := by
  have h_shared : Fn P w K mg base CX0 1 "shared" _ _ := (fn_shared T).mono (by decide)
  refine T.d_number_of.fn sc_number_of (fun _ _ _ _ _ _ us hl => match us, hl with | [_, _], _ => rfl) (fun vs H Q E h => ?_) (fun f cdv A outer s H vs Q E hr h => ?_)
  · obtain ⟨t, b, rfl, _⟩ := h; rfl
  · obtain ⟨t, b, rfl, hb, hs, q⟩ := h
    refine ⟨_, (pss_cons (ps_if (pt_cmpR op_eq (pv 1) pe_int (nomark _))
  (pss_one ps_never)
  pss_nil)
  (pss_cons (ps_set (i := 2) sc_number_of.nd rfl (.inl rfl) (pe_fn h_shared hr pass0 (pa_cons (pv 0) (pa_cons (pv 1) pa_nil))))
  (pss_cons (ps_if (pt_cmpR op_lt (pv 1) pe_int (nomark _))
  (pss_one (ps_set (i := 2) sc_number_of.nd rfl (.inl rfl) (pe_un un_neg (pv 2))))
  pss_nil)
  (pss_one (ps_ret (pe_tup (pa_cons (pe_op op_fdB (pv 0) (pv 2)) (pa_cons (pe_op op_fdB (pv 1) (pv 2)) pa_nil)))))))), ?_⟩
    repeat' (first
      | exact q
      | refine ⟨_, _, _, _, rfl, rfl, (by assumption), rfl, ?_⟩
      | refine ⟨_, _, _, _, true, rfl, .ty _, (by first | exact .base (.int _) | exact ty_tup (by assumption) | exact ty_lst (by assumption)), kit_ty (by decide +kernel), ?_⟩
      | refine ⟨_, _, _, _, false, rfl, .ty _, (by first | exact .base (.int _) | exact ty_tup (by assumption) | exact ty_lst (by assumption)), kit_ty (by decide +kernel), ?_⟩
      | refine ⟨_, _, rfl, .inr (by assumption), ?_⟩
      | refine ⟨_, _, rfl, .inl (by assumption), ?_⟩
      | refine ⟨_, _, rfl, (by assumption), rfl, ?_⟩
      | refine ⟨_, rfl, ?_⟩
      | refine ⟨_, _, rfl, rfl, ?_⟩
      | refine ⟨Nat.le_of_ble_eq_true rfl, fun p hp => ?_⟩
      | refine ⟨_, _, rfl, ?_⟩
      | refine ⟨rfl, ?_⟩
      | refine ⟨mul_ok4 (by assumption) (by assumption), ?_⟩
      | fail)
    refine ite_f (int_ne hb) ?_
    repeat' (first
      | exact q
      | refine ⟨_, _, _, _, rfl, rfl, (by assumption), rfl, ?_⟩
      | refine ⟨_, _, _, _, true, rfl, .ty _, (by first | exact .base (.int _) | exact ty_tup (by assumption) | exact ty_lst (by assumption)), kit_ty (by decide +kernel), ?_⟩
      | refine ⟨_, _, _, _, false, rfl, .ty _, (by first | exact .base (.int _) | exact ty_tup (by assumption) | exact ty_lst (by assumption)), kit_ty (by decide +kernel), ?_⟩
      | refine ⟨_, _, rfl, .inr (by assumption), ?_⟩
      | refine ⟨_, _, rfl, .inl (by assumption), ?_⟩
      | refine ⟨_, _, rfl, (by assumption), rfl, ?_⟩
      | refine ⟨_, rfl, ?_⟩
      | refine ⟨_, _, rfl, rfl, ?_⟩
      | refine ⟨Nat.le_of_ble_eq_true rfl, fun p hp => ?_⟩
      | refine ⟨_, _, rfl, ?_⟩
      | refine ⟨rfl, ?_⟩
      | refine ⟨mul_ok4 (by assumption) (by assumption), ?_⟩
      | fail)
    by_cases hn : b < 0
    · refine ite_t hn ?_
      obtain ⟨c1, c2, r⟩ := low_ret hb hs (g := -((Int.gcd t b : Nat) : Int)) (gdiv_pos hn).symm q
      exact ⟨_, rfl, _, rfl, _, rfl, _, rfl, _, _, rfl, rfl, c1, _, rfl, _, rfl, _, _, rfl, rfl, c2, (by show 2 ≤ sizeLine; decide), r⟩
    · refine ite_f hn ?_
      obtain ⟨c1, c2, r⟩ := low_ret hb hs (g := ((Int.gcd t b : Nat) : Int)) (gdiv_neg hn).symm q
      exact ⟨_, rfl, _, rfl, _, _, rfl, rfl, c1, _, rfl, _, rfl, _, _, rfl, rfl, c2, (by show 2 ≤ sizeLine; decide), r⟩
/-! ### _law_lowest -/
def sp_law_lowest := sp_number_of
abbrev s_law_lowest : Stmt := topS 42
theorem sc_law_lowest : FnScope ["_law_top", "_law_bottom", "_law_one", "_law_other"] ["_law_top", "_law_bottom"] (defScope s_law_lowest) := ⟨rfl, rfl, rfl, by decide +kernel, rfl, by decide +kernel, by decide +kernel⟩
theorem fn_law_lowest (T : Tops K mg) : Fn P w K mg base CX0 1 "_law_lowest" ["_law_top", "_law_bottom"] (sp_law_lowest K) := by
  refine T.d_law_lowest.fn sc_law_lowest (fun _ _ _ _ _ _ us hl => match us, hl with | [_, _], _ => rfl) (fun vs H Q E h => ?_) (fun f cdv A outer s H vs Q E hr h => ?_)
  · obtain ⟨t, b, rfl, _⟩ := h; rfl
  · obtain ⟨t, b, rfl, hb, hs, q⟩ := h
    refine ⟨_, (pss_cons (ps_par (i := 2) (j := 3) rfl sc_law_lowest.nd rfl rfl (by decide) rfl rfl (pa_cons (pe_callB call_abs (by rfl) T.B.abs bo_abs (pa_cons (pv 0) pa_nil)) (pa_cons (pe_callB call_abs (by rfl) T.B.abs bo_abs (pa_cons (pv 1) pa_nil)) pa_nil)) (by rfl))
  (pss_cons (ps_while PassesOwn.never (pt_cmpR op_gt (pv 3) pe_int (nomark _))
  (pss_one (ps_par (i := 2) (j := 3) rfl sc_law_lowest.nd rfl rfl (by decide) rfl rfl (pa_cons (pv 3) (pa_cons (pe_op op_modN (pv 2) (pv 3)) pa_nil)) (by rfl))))
  (pss_cons (ps_if (pt_cmpR op_lt (pv 1) pe_int (nomark _))
  (pss_one (ps_set (i := 2) sc_law_lowest.nd rfl (.inl rfl) (pe_un un_neg (pv 2))))
  pss_nil)
  (pss_one (ps_ret (pe_tup (pa_cons (pe_op op_fdB (pv 0) (pv 2)) (pa_cons (pe_op op_fdB (pv 1) (pv 2)) pa_nil)))))))), ?_⟩
    repeat' (first
      | exact q
      | refine ⟨_, _, _, _, rfl, rfl, (by assumption), rfl, ?_⟩
      | refine ⟨_, _, _, _, true, rfl, .ty _, (by first | exact .base (.int _) | exact ty_tup (by assumption) | exact ty_lst (by assumption)), kit_ty (by decide +kernel), ?_⟩
      | refine ⟨_, _, _, _, false, rfl, .ty _, (by first | exact .base (.int _) | exact ty_tup (by assumption) | exact ty_lst (by assumption)), kit_ty (by decide +kernel), ?_⟩
      | refine ⟨_, _, rfl, .inr (by assumption), ?_⟩
      | refine ⟨_, _, rfl, .inl (by assumption), ?_⟩
      | refine ⟨_, _, rfl, (by assumption), rfl, ?_⟩
      | refine ⟨_, rfl, ?_⟩
      | refine ⟨_, _, rfl, rfl, ?_⟩
      | refine ⟨Nat.le_of_ble_eq_true rfl, fun p hp => ?_⟩
      | refine ⟨_, _, rfl, ?_⟩
      | refine ⟨rfl, ?_⟩
      | refine ⟨mul_ok4 (by assumption) (by assumption), ?_⟩
      | fail)
    rw [abs_if, abs_if]
    refine while_by (fun σ H' => ∃ x y : Nat, σ = [some (.int t), some (.int b), some (.int x), some (.int y)] ∧ H' = H ∧ Nat.gcd x y = Int.gcd t b) (fun σ _ => match σ with | [_, _, _, some (.int y)] => y.toNat | _ => 0) ⟨t.natAbs, b.natAbs, rfl, rfl, rfl⟩ ?_ ?_
    · rintro σ H' ⟨x, y, rfl, rfl, e⟩
      refine ⟨.int y, rfl, _, _, rfl, rfl, _, rfl, ?_⟩
      by_cases hy : (0 : Int) < (y : Int)
      · rw [decide_eq_true hy]
        refine iteT ⟨.int y, rfl, .int x, rfl, .int y, rfl, _, _, rfl, rfl, (by show ((y : Nat) : Int) ≠ 0; omega), _, _, rfl, ⟨y, x % y, ?_, rfl, ?_⟩, ?_⟩
        · show [some (V.int t), some (V.int b), some (V.int (y : Int)), some (V.int (Int.fmod (x : Int) (y : Int)))] = _
          rw [fmod_gcd]
        · rw [← e, Nat.gcd_comm x y, Nat.gcd_rec y x, Nat.gcd_comm]
        · show (Int.fmod (x : Int) (y : Int)).toNat < ((y : Nat) : Int).toNat
          rw [fmod_gcd]
          have := Nat.mod_lt x (show y > 0 by omega)
          omega
      · rw [decide_eq_false hy]
        refine iteF ?_
        have : y = 0 := by omega
        subst this
        rw [Nat.gcd_zero_right] at e
        subst e
        by_cases hn : b < 0
        · repeat' (first
      | exact q
      | refine ⟨_, _, _, _, rfl, rfl, (by assumption), rfl, ?_⟩
      | refine ⟨_, _, _, _, true, rfl, .ty _, (by first | exact .base (.int _) | exact ty_tup (by assumption) | exact ty_lst (by assumption)), kit_ty (by decide +kernel), ?_⟩
      | refine ⟨_, _, _, _, false, rfl, .ty _, (by first | exact .base (.int _) | exact ty_tup (by assumption) | exact ty_lst (by assumption)), kit_ty (by decide +kernel), ?_⟩
      | refine ⟨_, _, rfl, .inr (by assumption), ?_⟩
      | refine ⟨_, _, rfl, .inl (by assumption), ?_⟩
      | refine ⟨_, _, rfl, (by assumption), rfl, ?_⟩
      | refine ⟨_, rfl, ?_⟩
      | refine ⟨_, _, rfl, rfl, ?_⟩
      | refine ⟨Nat.le_of_ble_eq_true rfl, fun p hp => ?_⟩
      | refine ⟨_, _, rfl, ?_⟩
      | refine ⟨rfl, ?_⟩
      | refine ⟨mul_ok4 (by assumption) (by assumption), ?_⟩
      | fail)
          refine ite_t hn ?_
          obtain ⟨c1, c2, r⟩ := low_ret hb hs (g := -((Int.gcd t b : Nat) : Int)) (gdiv_pos hn).symm q
          exact ⟨_, rfl, _, rfl, _, rfl, _, rfl, _, _, rfl, rfl, c1, _, rfl, _, rfl, _, _, rfl, rfl, c2, (by show 2 ≤ sizeLine; decide), r⟩
        · repeat' (first
      | exact q
      | refine ⟨_, _, _, _, rfl, rfl, (by assumption), rfl, ?_⟩
      | refine ⟨_, _, _, _, true, rfl, .ty _, (by first | exact .base (.int _) | exact ty_tup (by assumption) | exact ty_lst (by assumption)), kit_ty (by decide +kernel), ?_⟩
      | refine ⟨_, _, _, _, false, rfl, .ty _, (by first | exact .base (.int _) | exact ty_tup (by assumption) | exact ty_lst (by assumption)), kit_ty (by decide +kernel), ?_⟩
      | refine ⟨_, _, rfl, .inr (by assumption), ?_⟩
      | refine ⟨_, _, rfl, .inl (by assumption), ?_⟩
      | refine ⟨_, _, rfl, (by assumption), rfl, ?_⟩
      | refine ⟨_, rfl, ?_⟩
      | refine ⟨_, _, rfl, rfl, ?_⟩
      | refine ⟨Nat.le_of_ble_eq_true rfl, fun p hp => ?_⟩
      | refine ⟨_, _, rfl, ?_⟩
      | refine ⟨rfl, ?_⟩
      | refine ⟨mul_ok4 (by assumption) (by assumption), ?_⟩
      | fail)
          refine ite_f hn ?_
          obtain ⟨c1, c2, r⟩ := low_ret hb hs (g := ((Int.gcd t b : Nat) : Int)) (gdiv_neg hn).symm q
          exact ⟨_, rfl, _, rfl, _, _, rfl, rfl, c1, _, rfl, _, rfl, _, _, rfl, rfl, c2, (by show 2 ≤ sizeLine; decide), r⟩
    · rintro σ H' Q1 Q2 h ⟨v, e, _, _, r1, r2, k, r3, q⟩
      exact ⟨v, e, _, _, r1, r2, k, r3, h _ _ q⟩
/-! ### plus .. -/
/-- two numbers and what the answer is -/
def spBin (g : Rat → Rat → Rat) (c : Rat → Rat → Prop) (K : PySem.W.Frag) : Sp := fun vs H Q _ => ∃ (v u : V) (x y : Rat), vs = [v, u] ∧ Im K H v (numD x) ∧ Im K H u (numD y) ∧ Sm x ∧ Sm y ∧ c x y ∧ Sm (g x y) ∧ RetIm K (numD (g x y)) H Q
abbrev sp_plus := spBin (fun x y => x + y) (fun _ _ => True)
abbrev sp_minus := spBin (fun x y => x - y) (fun _ _ => True)
abbrev sp_times := spBin (fun x y => x * y) (fun _ _ => True)
abbrev sp_over := spBin (fun x y => x / y) (fun _ y => y ≠ 0)
abbrev sp_law_plus := sp_plus
abbrev sp_law_times := sp_times
abbrev s_plus : Stmt := topS 14
theorem sc_plus : FnScope ["a", "b"] ["a", "b"] (defScope s_plus) := ⟨rfl, rfl, rfl, by decide +kernel, rfl, by decide +kernel, by decide +kernel⟩
theorem fn_plus (T : Tops K mg) : Fn P w K mg base CX0 3 "plus" ["a", "b"] (sp_plus K) := by
  have h_number_of : Fn P w K mg base CX0 2 "number_of" _ _ := (fn_number_of T).mono (by decide)
  refine T.d_plus.fn sc_plus (fun _ _ _ _ _ _ us hl => match us, hl with | [_, _], _ => rfl) (fun vs H Q E h => ?_) (fun f cdv A outer s H vs Q E hr h => ?_)
  · obtain ⟨v, u, x, y, rfl, _⟩ := h; rfl
  · obtain ⟨v, u, x, y, rfl, iv, iu, ⟨sx, tx⟩, ⟨sy, ty⟩, hc, hs, q⟩ := h
    obtain ⟨a, rfl, ta⟩ := num_inv iv
    obtain ⟨b, rfl, tb⟩ := num_inv iu
    have dx := den_ne x
    have dy := den_ne y
    have tx := den_na tx
    have ty := den_na ty
    have e := plus_eq x y
    refine ⟨_, (pss_one (ps_ret (pe_fn h_number_of hr pass0 (pa_cons (pe_op op_add (pe_op op_mulB (pe_ix ix_tupK (pv 0) pe_int (fun _ _ => rfl)) (pe_ix ix_tupK (pv 1) pe_int (fun _ _ => rfl))) (pe_op op_mulB (pe_ix ix_tupK (pv 1) pe_int (fun _ _ => rfl)) (pe_ix ix_tupK (pv 0) pe_int (fun _ _ => rfl)))) (pa_cons (pe_op op_mulB (pe_ix ix_tupK (pv 0) pe_int (fun _ _ => rfl)) (pe_ix ix_tupK (pv 1) pe_int (fun _ _ => rfl))) pa_nil))))), ?_⟩
    repeat' (first
      | exact q
      | refine ⟨_, _, _, _, rfl, rfl, (by assumption), rfl, ?_⟩
      | refine ⟨_, _, _, _, true, rfl, .ty _, (by first | exact .base (.int _) | exact ty_tup (by assumption) | exact ty_lst (by assumption)), kit_ty (by decide +kernel), ?_⟩
      | refine ⟨_, _, _, _, false, rfl, .ty _, (by first | exact .base (.int _) | exact ty_tup (by assumption) | exact ty_lst (by assumption)), kit_ty (by decide +kernel), ?_⟩
      | refine ⟨_, _, rfl, .inr (by assumption), ?_⟩
      | refine ⟨_, _, rfl, .inl (by assumption), ?_⟩
      | refine ⟨_, _, rfl, (by assumption), rfl, ?_⟩
      | refine ⟨_, rfl, ?_⟩
      | refine ⟨_, _, rfl, rfl, ?_⟩
      | refine ⟨Nat.le_of_ble_eq_true rfl, fun p hp => ?_⟩
      | refine ⟨_, _, rfl, ?_⟩
      | refine ⟨rfl, ?_⟩
      | refine ⟨mul_ok4 (by assumption) (by assumption), ?_⟩
      | fail)
    exact ⟨Int.mul_ne_zero dx dy, (by rw [e]; exact hs), (by rw [e]; exact q)⟩
abbrev s_minus : Stmt := topS 15
theorem sc_minus : FnScope ["a", "b"] ["a", "b"] (defScope s_minus) := ⟨rfl, rfl, rfl, by decide +kernel, rfl, by decide +kernel, by decide +kernel⟩
theorem fn_minus (T : Tops K mg) : Fn P w K mg base CX0 3 "minus" ["a", "b"] (sp_minus K) := by
  have h_number_of : Fn P w K mg base CX0 2 "number_of" _ _ := (fn_number_of T).mono (by decide)
  refine T.d_minus.fn sc_minus (fun _ _ _ _ _ _ us hl => match us, hl with | [_, _], _ => rfl) (fun vs H Q E h => ?_) (fun f cdv A outer s H vs Q E hr h => ?_)
  · obtain ⟨v, u, x, y, rfl, _⟩ := h; rfl
  · obtain ⟨v, u, x, y, rfl, iv, iu, ⟨sx, tx⟩, ⟨sy, ty⟩, hc, hs, q⟩ := h
    obtain ⟨a, rfl, ta⟩ := num_inv iv
    obtain ⟨b, rfl, tb⟩ := num_inv iu
    have dx := den_ne x
    have dy := den_ne y
    have tx := den_na tx
    have ty := den_na ty
    have e := minus_eq x y
    refine ⟨_, (pss_one (ps_ret (pe_fn h_number_of hr pass0 (pa_cons (pe_op op_sub (pe_op op_mulB (pe_ix ix_tupK (pv 0) pe_int (fun _ _ => rfl)) (pe_ix ix_tupK (pv 1) pe_int (fun _ _ => rfl))) (pe_op op_mulB (pe_ix ix_tupK (pv 1) pe_int (fun _ _ => rfl)) (pe_ix ix_tupK (pv 0) pe_int (fun _ _ => rfl)))) (pa_cons (pe_op op_mulB (pe_ix ix_tupK (pv 0) pe_int (fun _ _ => rfl)) (pe_ix ix_tupK (pv 1) pe_int (fun _ _ => rfl))) pa_nil))))), ?_⟩
    repeat' (first
      | exact q
      | refine ⟨_, _, _, _, rfl, rfl, (by assumption), rfl, ?_⟩
      | refine ⟨_, _, _, _, true, rfl, .ty _, (by first | exact .base (.int _) | exact ty_tup (by assumption) | exact ty_lst (by assumption)), kit_ty (by decide +kernel), ?_⟩
      | refine ⟨_, _, _, _, false, rfl, .ty _, (by first | exact .base (.int _) | exact ty_tup (by assumption) | exact ty_lst (by assumption)), kit_ty (by decide +kernel), ?_⟩
      | refine ⟨_, _, rfl, .inr (by assumption), ?_⟩
      | refine ⟨_, _, rfl, .inl (by assumption), ?_⟩
      | refine ⟨_, _, rfl, (by assumption), rfl, ?_⟩
      | refine ⟨_, rfl, ?_⟩
      | refine ⟨_, _, rfl, rfl, ?_⟩
      | refine ⟨Nat.le_of_ble_eq_true rfl, fun p hp => ?_⟩
      | refine ⟨_, _, rfl, ?_⟩
      | refine ⟨rfl, ?_⟩
      | refine ⟨mul_ok4 (by assumption) (by assumption), ?_⟩
      | fail)
    exact ⟨Int.mul_ne_zero dx dy, (by rw [e]; exact hs), (by rw [e]; exact q)⟩
abbrev s_times : Stmt := topS 16
theorem sc_times : FnScope ["a", "b"] ["a", "b"] (defScope s_times) := ⟨rfl, rfl, rfl, by decide +kernel, rfl, by decide +kernel, by decide +kernel⟩
theorem fn_times (T : Tops K mg) : Fn P w K mg base CX0 3 "times" ["a", "b"] (sp_times K) := by
  have h_number_of : Fn P w K mg base CX0 2 "number_of" _ _ := (fn_number_of T).mono (by decide)
  refine T.d_times.fn sc_times (fun _ _ _ _ _ _ us hl => match us, hl with | [_, _], _ => rfl) (fun vs H Q E h => ?_) (fun f cdv A outer s H vs Q E hr h => ?_)
  · obtain ⟨v, u, x, y, rfl, _⟩ := h; rfl
  · obtain ⟨v, u, x, y, rfl, iv, iu, ⟨sx, tx⟩, ⟨sy, ty⟩, hc, hs, q⟩ := h
    obtain ⟨a, rfl, ta⟩ := num_inv iv
    obtain ⟨b, rfl, tb⟩ := num_inv iu
    have dx := den_ne x
    have dy := den_ne y
    have tx := den_na tx
    have ty := den_na ty
    have e := times_eq x y
    refine ⟨_, (pss_one (ps_ret (pe_fn h_number_of hr pass0 (pa_cons (pe_op op_mulB (pe_ix ix_tupK (pv 0) pe_int (fun _ _ => rfl)) (pe_ix ix_tupK (pv 1) pe_int (fun _ _ => rfl))) (pa_cons (pe_op op_mulB (pe_ix ix_tupK (pv 0) pe_int (fun _ _ => rfl)) (pe_ix ix_tupK (pv 1) pe_int (fun _ _ => rfl))) pa_nil))))), ?_⟩
    repeat' (first
      | exact q
      | refine ⟨_, _, _, _, rfl, rfl, (by assumption), rfl, ?_⟩
      | refine ⟨_, _, _, _, true, rfl, .ty _, (by first | exact .base (.int _) | exact ty_tup (by assumption) | exact ty_lst (by assumption)), kit_ty (by decide +kernel), ?_⟩
      | refine ⟨_, _, _, _, false, rfl, .ty _, (by first | exact .base (.int _) | exact ty_tup (by assumption) | exact ty_lst (by assumption)), kit_ty (by decide +kernel), ?_⟩
      | refine ⟨_, _, rfl, .inr (by assumption), ?_⟩
      | refine ⟨_, _, rfl, .inl (by assumption), ?_⟩
      | refine ⟨_, _, rfl, (by assumption), rfl, ?_⟩
      | refine ⟨_, rfl, ?_⟩
      | refine ⟨_, _, rfl, rfl, ?_⟩
      | refine ⟨Nat.le_of_ble_eq_true rfl, fun p hp => ?_⟩
      | refine ⟨_, _, rfl, ?_⟩
      | refine ⟨rfl, ?_⟩
      | refine ⟨mul_ok4 (by assumption) (by assumption), ?_⟩
      | fail)
    exact ⟨Int.mul_ne_zero dx dy, (by rw [e]; exact hs), (by rw [e]; exact q)⟩
abbrev s_over : Stmt := topS 17
theorem sc_over : FnScope ["a", "b"] ["a", "b"] (defScope s_over) := ⟨rfl, rfl, rfl, by decide +kernel, rfl, by decide +kernel, by decide +kernel⟩
theorem fn_over (T : Tops K mg) : Fn P w K mg base CX0 3 "over" ["a", "b"] (sp_over K) := by
  have h_number_of : Fn P w K mg base CX0 2 "number_of" _ _ := (fn_number_of T).mono (by decide)
  refine T.d_over.fn sc_over (fun _ _ _ _ _ _ us hl => match us, hl with | [_, _], _ => rfl) (fun vs H Q E h => ?_) (fun f cdv A outer s H vs Q E hr h => ?_)
  · obtain ⟨v, u, x, y, rfl, _⟩ := h; rfl
  · obtain ⟨v, u, x, y, rfl, iv, iu, ⟨sx, tx⟩, ⟨sy, ty⟩, hc, hs, q⟩ := h
    obtain ⟨a, rfl, ta⟩ := num_inv iv
    obtain ⟨b, rfl, tb⟩ := num_inv iu
    have dx := den_ne x
    have dy := den_ne y
    have tx := den_na tx
    have ty := den_na ty
    have e := over_eq x y hc
    refine ⟨_, (pss_cons (ps_if (pt_cmpR op_eq (pe_ix ix_tupK (pv 1) pe_int (fun _ _ => rfl)) pe_int (nomark _))
  (pss_one ps_never)
  pss_nil)
  (pss_one (ps_ret (pe_fn h_number_of hr pass0 (pa_cons (pe_op op_mulB (pe_ix ix_tupK (pv 0) pe_int (fun _ _ => rfl)) (pe_ix ix_tupK (pv 1) pe_int (fun _ _ => rfl))) (pa_cons (pe_op op_mulB (pe_ix ix_tupK (pv 0) pe_int (fun _ _ => rfl)) (pe_ix ix_tupK (pv 1) pe_int (fun _ _ => rfl))) pa_nil)))))), ?_⟩
    repeat' (first
      | exact q
      | refine ⟨_, _, _, _, rfl, rfl, (by assumption), rfl, ?_⟩
      | refine ⟨_, _, _, _, true, rfl, .ty _, (by first | exact .base (.int _) | exact ty_tup (by assumption) | exact ty_lst (by assumption)), kit_ty (by decide +kernel), ?_⟩
      | refine ⟨_, _, _, _, false, rfl, .ty _, (by first | exact .base (.int _) | exact ty_tup (by assumption) | exact ty_lst (by assumption)), kit_ty (by decide +kernel), ?_⟩
      | refine ⟨_, _, rfl, .inr (by assumption), ?_⟩
      | refine ⟨_, _, rfl, .inl (by assumption), ?_⟩
      | refine ⟨_, _, rfl, (by assumption), rfl, ?_⟩
      | refine ⟨_, rfl, ?_⟩
      | refine ⟨_, _, rfl, rfl, ?_⟩
      | refine ⟨Nat.le_of_ble_eq_true rfl, fun p hp => ?_⟩
      | refine ⟨_, _, rfl, ?_⟩
      | refine ⟨rfl, ?_⟩
      | refine ⟨mul_ok4 (by assumption) (by assumption), ?_⟩
      | fail)
    refine ite_f (int_ne (fun z => hc (Rat.num_eq_zero.mp z))) ?_
    repeat' (first
      | exact q
      | refine ⟨_, _, _, _, rfl, rfl, (by assumption), rfl, ?_⟩
      | refine ⟨_, _, _, _, true, rfl, .ty _, (by first | exact .base (.int _) | exact ty_tup (by assumption) | exact ty_lst (by assumption)), kit_ty (by decide +kernel), ?_⟩
      | refine ⟨_, _, _, _, false, rfl, .ty _, (by first | exact .base (.int _) | exact ty_tup (by assumption) | exact ty_lst (by assumption)), kit_ty (by decide +kernel), ?_⟩
      | refine ⟨_, _, rfl, .inr (by assumption), ?_⟩
      | refine ⟨_, _, rfl, .inl (by assumption), ?_⟩
      | refine ⟨_, _, rfl, (by assumption), rfl, ?_⟩
      | refine ⟨_, rfl, ?_⟩
      | refine ⟨_, _, rfl, rfl, ?_⟩
      | refine ⟨Nat.le_of_ble_eq_true rfl, fun p hp => ?_⟩
      | refine ⟨_, _, rfl, ?_⟩
      | refine ⟨rfl, ?_⟩
      | refine ⟨mul_ok4 (by assumption) (by assumption), ?_⟩
      | fail)
    exact ⟨Int.mul_ne_zero dx (fun z => hc (Rat.num_eq_zero.mp z)), (by rw [e]; exact hs), (by rw [e]; exact q)⟩
abbrev s_law_plus : Stmt := topS 47
theorem sc_law_plus : FnScope ["_law_a", "_law_b"] ["_law_a", "_law_b"] (defScope s_law_plus) := ⟨rfl, rfl, rfl, by decide +kernel, rfl, by decide +kernel, by decide +kernel⟩
theorem fn_law_plus (T : Tops K mg) : Fn P w K mg base CX0 3 "_law_plus" ["_law_a", "_law_b"] (sp_law_plus K) := by
  have h_law_lowest : Fn P w K mg base CX0 2 "_law_lowest" _ _ := (fn_law_lowest T).mono (by decide)
  refine T.d_law_plus.fn sc_law_plus (fun _ _ _ _ _ _ us hl => match us, hl with | [_, _], _ => rfl) (fun vs H Q E h => ?_) (fun f cdv A outer s H vs Q E hr h => ?_)
  · obtain ⟨v, u, x, y, rfl, _⟩ := h; rfl
  · obtain ⟨v, u, x, y, rfl, iv, iu, ⟨sx, tx⟩, ⟨sy, ty⟩, hc, hs, q⟩ := h
    obtain ⟨a, rfl, ta⟩ := num_inv iv
    obtain ⟨b, rfl, tb⟩ := num_inv iu
    have dx := den_ne x
    have dy := den_ne y
    have tx := den_na tx
    have ty := den_na ty
    have e := plus_eq x y
    refine ⟨_, (pss_one (ps_ret (pe_fn h_law_lowest hr pass0 (pa_cons (pe_op op_add (pe_op op_mulB (pe_ix ix_tupK (pv 0) pe_int (fun _ _ => rfl)) (pe_ix ix_tupK (pv 1) pe_int (fun _ _ => rfl))) (pe_op op_mulB (pe_ix ix_tupK (pv 1) pe_int (fun _ _ => rfl)) (pe_ix ix_tupK (pv 0) pe_int (fun _ _ => rfl)))) (pa_cons (pe_op op_mulB (pe_ix ix_tupK (pv 0) pe_int (fun _ _ => rfl)) (pe_ix ix_tupK (pv 1) pe_int (fun _ _ => rfl))) pa_nil))))), ?_⟩
    repeat' (first
      | exact q
      | refine ⟨_, _, _, _, rfl, rfl, (by assumption), rfl, ?_⟩
      | refine ⟨_, _, _, _, true, rfl, .ty _, (by first | exact .base (.int _) | exact ty_tup (by assumption) | exact ty_lst (by assumption)), kit_ty (by decide +kernel), ?_⟩
      | refine ⟨_, _, _, _, false, rfl, .ty _, (by first | exact .base (.int _) | exact ty_tup (by assumption) | exact ty_lst (by assumption)), kit_ty (by decide +kernel), ?_⟩
      | refine ⟨_, _, rfl, .inr (by assumption), ?_⟩
      | refine ⟨_, _, rfl, .inl (by assumption), ?_⟩
      | refine ⟨_, _, rfl, (by assumption), rfl, ?_⟩
      | refine ⟨_, rfl, ?_⟩
      | refine ⟨_, _, rfl, rfl, ?_⟩
      | refine ⟨Nat.le_of_ble_eq_true rfl, fun p hp => ?_⟩
      | refine ⟨_, _, rfl, ?_⟩
      | refine ⟨rfl, ?_⟩
      | refine ⟨mul_ok4 (by assumption) (by assumption), ?_⟩
      | fail)
    exact ⟨Int.mul_ne_zero dx dy, (by rw [e]; exact hs), (by rw [e]; exact q)⟩
abbrev s_law_times : Stmt := topS 48
theorem sc_law_times : FnScope ["_law_a", "_law_b"] ["_law_a", "_law_b"] (defScope s_law_times) := ⟨rfl, rfl, rfl, by decide +kernel, rfl, by decide +kernel, by decide +kernel⟩
theorem fn_law_times (T : Tops K mg) : Fn P w K mg base CX0 3 "_law_times" ["_law_a", "_law_b"] (sp_law_times K) := by
  have h_law_lowest : Fn P w K mg base CX0 2 "_law_lowest" _ _ := (fn_law_lowest T).mono (by decide)
  refine T.d_law_times.fn sc_law_times (fun _ _ _ _ _ _ us hl => match us, hl with | [_, _], _ => rfl) (fun vs H Q E h => ?_) (fun f cdv A outer s H vs Q E hr h => ?_)
  · obtain ⟨v, u, x, y, rfl, _⟩ := h; rfl
  · obtain ⟨v, u, x, y, rfl, iv, iu, ⟨sx, tx⟩, ⟨sy, ty⟩, hc, hs, q⟩ := h
    obtain ⟨a, rfl, ta⟩ := num_inv iv
    obtain ⟨b, rfl, tb⟩ := num_inv iu
    have dx := den_ne x
    have dy := den_ne y
    have tx := den_na tx
    have ty := den_na ty
    have e := times_eq x y
    refine ⟨_, (pss_one (ps_ret (pe_fn h_law_lowest hr pass0 (pa_cons (pe_op op_mulB (pe_ix ix_tupK (pv 0) pe_int (fun _ _ => rfl)) (pe_ix ix_tupK (pv 1) pe_int (fun _ _ => rfl))) (pa_cons (pe_op op_mulB (pe_ix ix_tupK (pv 0) pe_int (fun _ _ => rfl)) (pe_ix ix_tupK (pv 1) pe_int (fun _ _ => rfl))) pa_nil))))), ?_⟩
    repeat' (first
      | exact q
      | refine ⟨_, _, _, _, rfl, rfl, (by assumption), rfl, ?_⟩
      | refine ⟨_, _, _, _, true, rfl, .ty _, (by first | exact .base (.int _) | exact ty_tup (by assumption) | exact ty_lst (by assumption)), kit_ty (by decide +kernel), ?_⟩
      | refine ⟨_, _, _, _, false, rfl, .ty _, (by first | exact .base (.int _) | exact ty_tup (by assumption) | exact ty_lst (by assumption)), kit_ty (by decide +kernel), ?_⟩
      | refine ⟨_, _, rfl, .inr (by assumption), ?_⟩
      | refine ⟨_, _, rfl, .inl (by assumption), ?_⟩
      | refine ⟨_, _, rfl, (by assumption), rfl, ?_⟩
      | refine ⟨_, rfl, ?_⟩
      | refine ⟨_, _, rfl, rfl, ?_⟩
      | refine ⟨Nat.le_of_ble_eq_true rfl, fun p hp => ?_⟩
      | refine ⟨_, _, rfl, ?_⟩
      | refine ⟨rfl, ?_⟩
      | refine ⟨mul_ok4 (by assumption) (by assumption), ?_⟩
      | fail)
    exact ⟨Int.mul_ne_zero dx dy, (by rw [e]; exact hs), (by rw [e]; exact q)⟩

/-! ### _law_whole, _law_is_number -/
abbrev sp_law_whole := sp_is_whole
abbrev s_law_whole : Stmt := topS 53
theorem sc_law_whole : FnScope ["_law_thing"] ["_law_thing"] (defScope s_law_whole) := ⟨rfl, rfl, rfl, by decide +kernel, rfl, by decide +kernel, by decide +kernel⟩
theorem fn_law_whole (T : Tops K mg) : Fn P w K mg base CX0 1 "_law_whole" ["_law_thing"] (sp_law_whole K) := by
  refine T.d_law_whole.fn sc_law_whole (fun _ _ _ _ _ _ us hl => match us, hl with | [_], _ => rfl) (fun vs H Q E h => ?_) (fun f cdv A outer s H vs Q E hr h => ?_)
  · obtain ⟨i, rfl, _⟩ := h; rfl
  · obtain ⟨i, rfl, q⟩ := h
    refine ⟨_, (pss_one (ps_ret (pe_and (pe_callB call_isiK1 (by rfl) T.B.isinstance bo_isinstance (pa_cons (pv 0) (pa_cons (pe_bltn (v := .ty "int") (by rfl) T.B.int bo_int rfl) pa_nil))) (pe_one (pe_not (pe_callB call_isiK1 (by rfl) T.B.isinstance bo_isinstance (pa_cons (pv 0) (pa_cons (pe_bltn (v := .ty "bool") (by rfl) T.B.bool bo_bool rfl) pa_nil)))))))), ?_⟩
    repeat' (first
      | exact q
      | refine ⟨_, _, _, _, rfl, rfl, (by assumption), rfl, ?_⟩
      | refine ⟨_, _, _, _, true, rfl, .ty _, (by first | exact .base (.int _) | exact ty_tup (by assumption) | exact ty_lst (by assumption)), kit_ty (by decide +kernel), ?_⟩
      | refine ⟨_, _, _, _, false, rfl, .ty _, (by first | exact .base (.int _) | exact ty_tup (by assumption) | exact ty_lst (by assumption)), kit_ty (by decide +kernel), ?_⟩
      | refine ⟨_, _, rfl, .inr (by assumption), ?_⟩
      | refine ⟨_, _, rfl, .inl (by assumption), ?_⟩
      | refine ⟨_, _, rfl, (by assumption), rfl, ?_⟩
      | refine ⟨_, rfl, ?_⟩
      | refine ⟨_, _, rfl, rfl, ?_⟩
      | refine ⟨Nat.le_of_ble_eq_true rfl, fun p hp => ?_⟩
      | refine ⟨_, _, rfl, ?_⟩
      | refine ⟨rfl, ?_⟩
      | refine ⟨mul_ok4 (by assumption) (by assumption), ?_⟩
      | fail)
def sp_law_is_number (K : PySem.W.Frag) : Sp := fun vs H Q _ => ∃ (v : V) (q : Rat), vs = [v] ∧ Im K H v (numD q) ∧ q ≠ 0 ∧ Sm q ∧ RetB true H Q
abbrev s_law_is_number : Stmt := topS 54
theorem sc_law_is_number : FnScope ["_law_thing"] ["_law_thing"] (defScope s_law_is_number) := ⟨rfl, rfl, rfl, by decide +kernel, rfl, by decide +kernel, by decide +kernel⟩
theorem fn_law_is_number (T : Tops K mg) : Fn P w K mg base CX0 2 "_law_is_number" ["_law_thing"] (sp_law_is_number K) := by
  have h_law_whole : Fn P w K mg base CX0 1 "_law_whole" _ _ := (fn_law_whole T).mono (by decide)
  have h_law_lowest : Fn P w K mg base CX0 1 "_law_lowest" _ _ := (fn_law_lowest T).mono (by decide)
  refine T.d_law_is_number.fn sc_law_is_number (fun _ _ _ _ _ _ us hl => match us, hl with | [_], _ => rfl) (fun vs H Q E h => ?_) (fun f cdv A outer s H vs Q E hr h => ?_)
  · obtain ⟨v, x, rfl, _⟩ := h; rfl
  · obtain ⟨v, x, rfl, iv, hx, hs, q⟩ := h
    obtain ⟨a, rfl, ta⟩ := num_inv iv
    have dx := den_ne x
    refine ⟨_, (pss_cons (ps_if (PW.pt (pw_or (pt_not (pt_val (pe_callB call_isiK1 (by rfl) T.B.isinstance bo_isinstance (pa_cons (pv 0) (pa_cons (pe_bltn (v := .ty "tuple") (by rfl) T.B.tuple bo_tuple rfl) pa_nil))))) (pw_or (pt_cmpR op_ne (pe_callB call_len_seqK (by rfl) T.B.len bo_len (pa_cons (pv 0) pa_nil)) pe_int (nomark _)) (pw_or (pt_not (pt_val (pe_fn h_law_whole hr pass0 (pa_cons (pe_ix ix_tupK (pv 0) pe_int (fun _ _ => rfl)) pa_nil)))) (pw_or1 (pt_not (pt_val (pe_fn h_law_whole hr pass0 (pa_cons (pe_ix ix_tupK (pv 0) pe_int (fun _ _ => rfl)) pa_nil)))))))))
  (pss_one (ps_ret pe_bl))
  pss_nil)
  (pss_one (ps_ret (pe_and (pe_cmpR op_ne (pe_ix ix_tupK (pv 0) pe_int (fun _ _ => rfl)) pe_int (nomark _)) (pe_and (pe_cmpR op_gt (pe_ix ix_tupK (pv 0) pe_int (fun _ _ => rfl)) pe_int (nomark _)) (pe_one (pe_cmpR (op_eqDK hr.units) (pe_fn h_law_lowest hr pass0 (pa_cons (pe_ix ix_tupK (pv 0) pe_int (fun _ _ => rfl)) (pa_cons (pe_ix ix_tupK (pv 0) pe_int (fun _ _ => rfl)) pa_nil))) (pv 0) (nomark _)))))))), ?_⟩
    repeat' (first
      | exact q
      | refine ⟨_, _, _, _, rfl, rfl, (by assumption), rfl, ?_⟩
      | refine ⟨_, _, _, _, true, rfl, .ty _, (by first | exact .base (.int _) | exact ty_tup (by assumption) | exact ty_lst (by assumption)), kit_ty (by decide +kernel), ?_⟩
      | refine ⟨_, _, _, _, false, rfl, .ty _, (by first | exact .base (.int _) | exact ty_tup (by assumption) | exact ty_lst (by assumption)), kit_ty (by decide +kernel), ?_⟩
      | refine ⟨_, _, rfl, .inr (by assumption), ?_⟩
      | refine ⟨_, _, rfl, .inl (by assumption), ?_⟩
      | refine ⟨_, _, rfl, (by assumption), rfl, ?_⟩
      | refine ⟨_, rfl, ?_⟩
      | refine ⟨_, _, rfl, rfl, ?_⟩
      | refine ⟨Nat.le_of_ble_eq_true rfl, fun p hp => ?_⟩
      | refine ⟨_, _, rfl, ?_⟩
      | refine ⟨rfl, ?_⟩
      | refine ⟨mul_ok4 (by assumption) (by assumption), ?_⟩
      | fail)
    rw [decide_eq_false (int_ne (fun z => hx (Rat.num_eq_zero.mp z)))]
    repeat' (first
      | exact q
      | refine ⟨_, _, _, _, rfl, rfl, (by assumption), rfl, ?_⟩
      | refine ⟨_, _, _, _, true, rfl, .ty _, (by first | exact .base (.int _) | exact ty_tup (by assumption) | exact ty_lst (by assumption)), kit_ty (by decide +kernel), ?_⟩
      | refine ⟨_, _, _, _, false, rfl, .ty _, (by first | exact .base (.int _) | exact ty_tup (by assumption) | exact ty_lst (by assumption)), kit_ty (by decide +kernel), ?_⟩
      | refine ⟨_, _, rfl, .inr (by assumption), ?_⟩
      | refine ⟨_, _, rfl, .inl (by assumption), ?_⟩
      | refine ⟨_, _, rfl, (by assumption), rfl, ?_⟩
      | refine ⟨_, rfl, ?_⟩
      | refine ⟨_, _, rfl, rfl, ?_⟩
      | refine ⟨Nat.le_of_ble_eq_true rfl, fun p hp => ?_⟩
      | refine ⟨_, _, rfl, ?_⟩
      | refine ⟨rfl, ?_⟩
      | refine ⟨mul_ok4 (by assumption) (by assumption), ?_⟩
      | fail)
    refine ite_t (by have := x.den_pos; omega) ?_
    repeat' (first
      | exact q
      | refine ⟨_, _, _, _, rfl, rfl, (by assumption), rfl, ?_⟩
      | refine ⟨_, _, _, _, true, rfl, .ty _, (by first | exact .base (.int _) | exact ty_tup (by assumption) | exact ty_lst (by assumption)), kit_ty (by decide +kernel), ?_⟩
      | refine ⟨_, _, _, _, false, rfl, .ty _, (by first | exact .base (.int _) | exact ty_tup (by assumption) | exact ty_lst (by assumption)), kit_ty (by decide +kernel), ?_⟩
      | refine ⟨_, _, rfl, .inr (by assumption), ?_⟩
      | refine ⟨_, _, rfl, .inl (by assumption), ?_⟩
      | refine ⟨_, _, rfl, (by assumption), rfl, ?_⟩
      | refine ⟨_, rfl, ?_⟩
      | refine ⟨_, _, rfl, rfl, ?_⟩
      | refine ⟨Nat.le_of_ble_eq_true rfl, fun p hp => ?_⟩
      | refine ⟨_, _, rfl, ?_⟩
      | refine ⟨rfl, ?_⟩
      | refine ⟨mul_ok4 (by assumption) (by assumption), ?_⟩
      | fail)
    have e : Rat.divInt x.num (x.den : Int) = x := Rat.num_divInt_den x
    refine ⟨dx, (by rw [e]; exact hs), fun v H1 s1 i1 => ?_⟩
    rw [e] at i1
    have iv1 := iv.mono s1.tup
    refine ⟨_, rfl, _, _, i1.dp, iv1.dp, (shp_num _).shaped (by decide), (shp_num _).shaped (by decide), ?_⟩
    rw [eqv_self _ (shp_num x).1]
    exact q _ s1
end
end FW
end

/-! ## W3 -/
section
set_option Elab.async false
set_option linter.all false
set_option maxRecDepth 100000
set_option maxHeartbeats 4000000
namespace FW
open PySem PySem.Spec PyProof.Rows L2 FF
section
variable {P : Program} {w : World} {K : PySem.W.Frag} {mg : Str → Option Value} {base : Heap}
theorem Same.tt {K : PySem.W.Frag} {H H' : Hp} {a : Addr} {xs : List V} (s : Same H H') (h : SqT K H a xs) : SqT K H' a xs := TT.mono s.tup h
/-- a new pair of ints, below n -/
def PTi (K : PySem.W.Frag) (n : Int) : Nat → V → Hp → Prop := fun _ y H => ∃ t u v, y = V.ref t ∧ SqT K H t [.int u, .int v] ∧ 0 ≤ u ∧ u < n ∧ 0 ≤ v ∧ v < n
theorem PTi.m1 {K : PySem.W.Frag} {n : Int} : ∀ i y H H', Same H H' → PTi K n i y H → PTi K n i y H' := fun _ _ _ _ s ⟨t, u, v, e, p, b⟩ => ⟨t, u, v, e, Same.tt s p, b⟩
theorem PTi.m2 {K : PySem.W.Frag} {n : Int} {D : Addr} : ∀ i y H acc acc', H D = some (.lst acc) → PTi K n i y H → PTi K n i y (upd H D (.lst acc')) := fun _ _ _ _ _ e ⟨t, u, v, e1, p, b⟩ => ⟨t, u, v, e1, TT.mono (.lst e) p, b⟩
theorem pti_list {K : PySem.W.Frag} {n : Int} {H : Hp} : ∀ {ys : List V}, (∀ y ∈ ys, PTi K n 0 y H) → ∃ L : List (Addr × List Int), ys = L.map (fun p => V.ref p.1) ∧ ∀ p ∈ L, SqT K H p.1 (p.2.map V.int) ∧ p.2.length = 2 ∧ TS.Bd n p.2
  | [], _ => ⟨[], rfl, fun p hp => by simp at hp⟩
  | y :: ys, h => by
    obtain ⟨L, e, q⟩ := pti_list fun z hz => h z (List.mem_cons_of_mem _ hz)
    obtain ⟨t, u, v, rfl, tt, b⟩ := h y List.mem_cons_self
    refine ⟨(t, [u, v]) :: L, by simp [e], fun p hp => ?_⟩
    rcases List.mem_cons.mp hp with rfl | hp
    · refine ⟨tt, rfl, ?_⟩
      intro x hx
      simp at hx
      rcases hx with rfl | rfl <;> omega
    · exact q p hp
theorem q_t {Q : VK} {H : Hp} {p : Prop} {d : Decidable p} (h : p) (q : Q (.bl true) H) : Q (.bl (decide p)) H := by rw [decide_eq_true h]; exact q
theorem q_f {Q : VK} {H : Hp} {p : Prop} {d : Decidable p} (h : ¬ p) (q : Q (.bl false) H) : Q (.bl (decide p)) H := by rw [decide_eq_false h]; exact q
def sp_is_place (K : PySem.W.Frag) : Sp := fun vs H Q _ => ∃ n i : Int, vs = [.int n, .int i] ∧ 0 ≤ i ∧ i < n ∧ Q (.bl true) H
abbrev s_is_place : Stmt := topS 20
theorem sc_is_place : FnScope ["n", "thing"] ["n", "thing"] (defScope s_is_place) := ⟨rfl, rfl, rfl, by decide +kernel, rfl, by decide +kernel, by decide +kernel⟩
theorem fn_is_place (T : Tops K mg) : Fn P w K mg base CX0 2 "is_place" ["n", "thing"] (sp_is_place K) := by
  have h_is_whole : Fn P w K mg base CX0 1 "is_whole" _ _ := (fn_is_whole T).mono (by decide)
  refine T.d_is_place.fn sc_is_place (fun _ _ _ _ _ _ us hl => match us, hl with | [_, _], _ => rfl) (fun vs H Q E h => ?_) (fun f cdv A outer s H vs Q E hr h => ?_)
  · obtain ⟨n, i, rfl, _⟩ := h; rfl
  · obtain ⟨n, i, rfl, h0, h1, q⟩ := h
    refine ⟨_, (pss_one (ps_ret (pe_and (pe_fn h_is_whole hr pass0 (pa_cons (pv 1) pa_nil)) (pe_one (pe_chain op_le op_lt pe_int (pv 1) (pv 0)))))), ?_⟩
    repeat' (first
      | exact q
      | refine ⟨_, _, _, _, rfl, rfl, (by assumption), rfl, ?_⟩
      | refine ⟨_, _, _, _, true, rfl, .ty _, (by first | exact .base (.int _) | exact ty_tup (by assumption) | exact ty_lst (by assumption)), kit_ty (by decide +kernel), ?_⟩
      | refine ⟨_, _, _, _, false, rfl, .ty _, (by first | exact .base (.int _) | exact ty_tup (by assumption) | exact ty_lst (by assumption)), kit_ty (by decide +kernel), ?_⟩
      | refine ⟨_, _, rfl, .inr (by assumption), ?_⟩
      | refine ⟨_, _, rfl, .inl (by assumption), ?_⟩
      | refine ⟨_, _, rfl, (by assumption), rfl, ?_⟩
      | refine ⟨_, rfl, ?_⟩
      | refine ⟨_, _, rfl, rfl, ?_⟩
      | refine ⟨Nat.le_of_ble_eq_true rfl, fun p hp => ?_⟩
      | refine ⟨_, _, rfl, ?_⟩
      | refine ⟨rfl, ?_⟩
      | refine ⟨mul_ok4 (by assumption) (by assumption), ?_⟩
      | fail)
    rw [decide_eq_true h0]
    repeat' (first
      | exact q
      | refine ⟨_, _, _, _, rfl, rfl, (by assumption), rfl, ?_⟩
      | refine ⟨_, _, _, _, true, rfl, .ty _, (by first | exact .base (.int _) | exact ty_tup (by assumption) | exact ty_lst (by assumption)), kit_ty (by decide +kernel), ?_⟩
      | refine ⟨_, _, _, _, false, rfl, .ty _, (by first | exact .base (.int _) | exact ty_tup (by assumption) | exact ty_lst (by assumption)), kit_ty (by decide +kernel), ?_⟩
      | refine ⟨_, _, rfl, .inr (by assumption), ?_⟩
      | refine ⟨_, _, rfl, .inl (by assumption), ?_⟩
      | refine ⟨_, _, rfl, (by assumption), rfl, ?_⟩
      | refine ⟨_, rfl, ?_⟩
      | refine ⟨_, _, rfl, rfl, ?_⟩
      | refine ⟨Nat.le_of_ble_eq_true rfl, fun p hp => ?_⟩
      | refine ⟨_, _, rfl, ?_⟩
      | refine ⟨rfl, ?_⟩
      | refine ⟨mul_ok4 (by assumption) (by assumption), ?_⟩
      | fail)
    exact q_t h1 q
abbrev sp_stands_below := sp_is_place
abbrev s_stands_below : Stmt := topS 27
theorem sc_stands_below : FnScope ["n", "thing"] ["n", "thing"] (defScope s_stands_below) := ⟨rfl, rfl, rfl, by decide +kernel, rfl, by decide +kernel, by decide +kernel⟩
theorem fn_stands_below (T : Tops K mg) : Fn P w K mg base CX0 2 "stands_below" ["n", "thing"] (sp_stands_below K) := by
  have h_is_whole : Fn P w K mg base CX0 1 "is_whole" _ _ := (fn_is_whole T).mono (by decide)
  refine T.d_stands_below.fn sc_stands_below (fun _ _ _ _ _ _ us hl => match us, hl with | [_, _], _ => rfl) (fun vs H Q E h => ?_) (fun f cdv A outer s H vs Q E hr h => ?_)
  · obtain ⟨n, i, rfl, _⟩ := h; rfl
  · obtain ⟨n, i, rfl, h0, h1, q⟩ := h
    refine ⟨_, (pss_one (ps_ret (pe_and (pe_fn h_is_whole hr pass0 (pa_cons (pv 1) pa_nil)) (pe_one (pe_chain op_le op_lt pe_int (pv 1) (pv 0)))))), ?_⟩
    repeat' (first
      | exact q
      | refine ⟨_, _, _, _, rfl, rfl, (by assumption), rfl, ?_⟩
      | refine ⟨_, _, _, _, true, rfl, .ty _, (by first | exact .base (.int _) | exact ty_tup (by assumption) | exact ty_lst (by assumption)), kit_ty (by decide +kernel), ?_⟩
      | refine ⟨_, _, _, _, false, rfl, .ty _, (by first | exact .base (.int _) | exact ty_tup (by assumption) | exact ty_lst (by assumption)), kit_ty (by decide +kernel), ?_⟩
      | refine ⟨_, _, rfl, .inr (by assumption), ?_⟩
      | refine ⟨_, _, rfl, .inl (by assumption), ?_⟩
      | refine ⟨_, _, rfl, (by assumption), rfl, ?_⟩
      | refine ⟨_, rfl, ?_⟩
      | refine ⟨_, _, rfl, rfl, ?_⟩
      | refine ⟨Nat.le_of_ble_eq_true rfl, fun p hp => ?_⟩
      | refine ⟨_, _, rfl, ?_⟩
      | refine ⟨rfl, ?_⟩
      | refine ⟨mul_ok4 (by assumption) (by assumption), ?_⟩
      | fail)
    rw [decide_eq_true h0]
    repeat' (first
      | exact q
      | refine ⟨_, _, _, _, rfl, rfl, (by assumption), rfl, ?_⟩
      | refine ⟨_, _, _, _, true, rfl, .ty _, (by first | exact .base (.int _) | exact ty_tup (by assumption) | exact ty_lst (by assumption)), kit_ty (by decide +kernel), ?_⟩
      | refine ⟨_, _, _, _, false, rfl, .ty _, (by first | exact .base (.int _) | exact ty_tup (by assumption) | exact ty_lst (by assumption)), kit_ty (by decide +kernel), ?_⟩
      | refine ⟨_, _, rfl, .inr (by assumption), ?_⟩
      | refine ⟨_, _, rfl, .inl (by assumption), ?_⟩
      | refine ⟨_, _, rfl, (by assumption), rfl, ?_⟩
      | refine ⟨_, rfl, ?_⟩
      | refine ⟨_, _, rfl, rfl, ?_⟩
      | refine ⟨Nat.le_of_ble_eq_true rfl, fun p hp => ?_⟩
      | refine ⟨_, _, rfl, ?_⟩
      | refine ⟨rfl, ?_⟩
      | refine ⟨mul_ok4 (by assumption) (by assumption), ?_⟩
      | fail)
    exact q_t h1 q
def sp_is_count (K : PySem.W.Frag) : Sp := fun vs H Q _ => ∃ n : Int, vs = [.int n] ∧ 0 ≤ n ∧ n ≤ 12 ∧ Q (.bl true) H
abbrev s_is_count : Stmt := topS 21
theorem sc_is_count : FnScope ["thing"] ["thing"] (defScope s_is_count) := ⟨rfl, rfl, rfl, by decide +kernel, rfl, by decide +kernel, by decide +kernel⟩
theorem fn_is_count (T : Tops K mg) : Fn P w K mg base CX0 2 "is_count" ["thing"] (sp_is_count K) := by
  have h_is_whole : Fn P w K mg base CX0 1 "is_whole" _ _ := (fn_is_whole T).mono (by decide)
  obtain ⟨twebs, mMOST_PLACES_webs⟩ := T.v_MOST_PLACES_webs
  refine T.d_is_count.fn sc_is_count (fun _ _ _ _ _ _ us hl => match us, hl with | [_], _ => rfl) (fun vs H Q E h => ?_) (fun f cdv A outer s H vs Q E hr h => ?_)
  · obtain ⟨n, rfl, _⟩ := h; rfl
  · obtain ⟨n, rfl, h0, h1, q⟩ := h
    refine ⟨_, (pss_one (ps_ret (pe_and (pe_fn h_is_whole hr pass0 (pa_cons (pv 0) pa_nil)) (pe_one (pe_chain op_le op_le pe_int (pv 0) (pe_glob (v := .int 12) (by rfl) mMOST_PLACES_webs ⟨_, rfl⟩)))))), ?_⟩
    repeat' (first
      | exact q
      | refine ⟨_, _, _, _, rfl, rfl, (by assumption), rfl, ?_⟩
      | refine ⟨_, _, _, _, true, rfl, .ty _, (by first | exact .base (.int _) | exact ty_tup (by assumption) | exact ty_lst (by assumption)), kit_ty (by decide +kernel), ?_⟩
      | refine ⟨_, _, _, _, false, rfl, .ty _, (by first | exact .base (.int _) | exact ty_tup (by assumption) | exact ty_lst (by assumption)), kit_ty (by decide +kernel), ?_⟩
      | refine ⟨_, _, rfl, .inr (by assumption), ?_⟩
      | refine ⟨_, _, rfl, .inl (by assumption), ?_⟩
      | refine ⟨_, _, rfl, (by assumption), rfl, ?_⟩
      | refine ⟨_, rfl, ?_⟩
      | refine ⟨_, _, rfl, rfl, ?_⟩
      | refine ⟨Nat.le_of_ble_eq_true rfl, fun p hp => ?_⟩
      | refine ⟨_, _, rfl, ?_⟩
      | refine ⟨rfl, ?_⟩
      | refine ⟨mul_ok4 (by assumption) (by assumption), ?_⟩
      | fail)
    rw [decide_eq_true h0]
    repeat' (first
      | exact q
      | refine ⟨_, _, _, _, rfl, rfl, (by assumption), rfl, ?_⟩
      | refine ⟨_, _, _, _, true, rfl, .ty _, (by first | exact .base (.int _) | exact ty_tup (by assumption) | exact ty_lst (by assumption)), kit_ty (by decide +kernel), ?_⟩
      | refine ⟨_, _, _, _, false, rfl, .ty _, (by first | exact .base (.int _) | exact ty_tup (by assumption) | exact ty_lst (by assumption)), kit_ty (by decide +kernel), ?_⟩
      | refine ⟨_, _, rfl, .inr (by assumption), ?_⟩
      | refine ⟨_, _, rfl, .inl (by assumption), ?_⟩
      | refine ⟨_, _, rfl, (by assumption), rfl, ?_⟩
      | refine ⟨_, rfl, ?_⟩
      | refine ⟨_, _, rfl, rfl, ?_⟩
      | refine ⟨Nat.le_of_ble_eq_true rfl, fun p hp => ?_⟩
      | refine ⟨_, _, rfl, ?_⟩
      | refine ⟨rfl, ?_⟩
      | refine ⟨mul_ok4 (by assumption) (by assumption), ?_⟩
      | fail)
    exact q_t h1 q
def sp_is_tie (K : PySem.W.Frag) : Sp := fun vs H Q _ => ∃ (n : Int) (a : Addr) (i j : Int), vs = [.int n, .ref a] ∧ SqT K H a [.int i, .int j] ∧ (0 ≤ i ∧ i < n ∧ 0 ≤ j ∧ j < n ∧ i ≠ j) ∧ Q (.bl true) H
abbrev s_is_tie : Stmt := topS 22
theorem sc_is_tie : FnScope ["n", "thing"] ["n", "thing"] (defScope s_is_tie) := ⟨rfl, rfl, rfl, by decide +kernel, rfl, by decide +kernel, by decide +kernel⟩
theorem fn_is_tie (T : Tops K mg) : Fn P w K mg base CX0 3 "is_tie" ["n", "thing"] (sp_is_tie K) := by
  have h_is_place : Fn P w K mg base CX0 2 "is_place" _ _ := (fn_is_place T).mono (by decide)
  refine T.d_is_tie.fn sc_is_tie (fun _ _ _ _ _ _ us hl => match us, hl with | [_, _], _ => rfl) (fun vs H Q E h => ?_) (fun f cdv A outer s H vs Q E hr h => ?_)
  · obtain ⟨n, a, i, j, rfl, _⟩ := h; rfl
  · obtain ⟨n, a, i, j, rfl, ta, ⟨h0, h1, h2, h3, h4⟩, q⟩ := h
    refine ⟨_, (pss_cons (ps_if (PW.pt (pw_or (pt_not (pt_val (pe_callB call_isiK1 (by rfl) T.B.isinstance bo_isinstance (pa_cons (pv 1) (pa_cons (pe_bltn (v := .ty "tuple") (by rfl) T.B.tuple bo_tuple rfl) pa_nil))))) (pw_or1 (pt_cmpR op_ne (pe_callB call_len_seqK (by rfl) T.B.len bo_len (pa_cons (pv 1) pa_nil)) pe_int (nomark _)))))
  (pss_one (ps_ret pe_bl))
  pss_nil)
  (pss_one (ps_ret (pe_and (pe_fn h_is_place hr pass0 (pa_cons (pv 0) (pa_cons (pe_ix ix_tupK (pv 1) pe_int (fun _ _ => rfl)) pa_nil))) (pe_and (pe_fn h_is_place hr pass0 (pa_cons (pv 0) (pa_cons (pe_ix ix_tupK (pv 1) pe_int (fun _ _ => rfl)) pa_nil))) (pe_one (pe_cmpR op_ne (pe_ix ix_tupK (pv 1) pe_int (fun _ _ => rfl)) (pe_ix ix_tupK (pv 1) pe_int (fun _ _ => rfl)) (nomark _)))))))), ?_⟩
    repeat' (first
      | exact q
      | refine ⟨_, _, _, _, rfl, rfl, (by assumption), rfl, ?_⟩
      | refine ⟨_, _, _, _, true, rfl, .ty _, (by first | exact .base (.int _) | exact ty_tup (by assumption) | exact ty_lst (by assumption)), kit_ty (by decide +kernel), ?_⟩
      | refine ⟨_, _, _, _, false, rfl, .ty _, (by first | exact .base (.int _) | exact ty_tup (by assumption) | exact ty_lst (by assumption)), kit_ty (by decide +kernel), ?_⟩
      | refine ⟨_, _, rfl, .inr (by assumption), ?_⟩
      | refine ⟨_, _, rfl, .inl (by assumption), ?_⟩
      | refine ⟨_, _, rfl, (by assumption), rfl, ?_⟩
      | refine ⟨_, rfl, ?_⟩
      | refine ⟨_, _, rfl, rfl, ?_⟩
      | refine ⟨Nat.le_of_ble_eq_true rfl, fun p hp => ?_⟩
      | refine ⟨_, _, rfl, ?_⟩
      | refine ⟨rfl, ?_⟩
      | refine ⟨mul_ok4 (by assumption) (by assumption), ?_⟩
      | fail)
    refine ⟨h0, h1, _, rfl, ?_⟩
    repeat' (first
      | exact q
      | refine ⟨_, _, _, _, rfl, rfl, (by assumption), rfl, ?_⟩
      | refine ⟨_, _, _, _, true, rfl, .ty _, (by first | exact .base (.int _) | exact ty_tup (by assumption) | exact ty_lst (by assumption)), kit_ty (by decide +kernel), ?_⟩
      | refine ⟨_, _, _, _, false, rfl, .ty _, (by first | exact .base (.int _) | exact ty_tup (by assumption) | exact ty_lst (by assumption)), kit_ty (by decide +kernel), ?_⟩
      | refine ⟨_, _, rfl, .inr (by assumption), ?_⟩
      | refine ⟨_, _, rfl, .inl (by assumption), ?_⟩
      | refine ⟨_, _, rfl, (by assumption), rfl, ?_⟩
      | refine ⟨_, rfl, ?_⟩
      | refine ⟨_, _, rfl, rfl, ?_⟩
      | refine ⟨Nat.le_of_ble_eq_true rfl, fun p hp => ?_⟩
      | refine ⟨_, _, rfl, ?_⟩
      | refine ⟨rfl, ?_⟩
      | refine ⟨mul_ok4 (by assumption) (by assumption), ?_⟩
      | fail)
    refine ⟨h2, h3, _, rfl, ?_⟩
    repeat' (first
      | exact q
      | refine ⟨_, _, _, _, rfl, rfl, (by assumption), rfl, ?_⟩
      | refine ⟨_, _, _, _, true, rfl, .ty _, (by first | exact .base (.int _) | exact ty_tup (by assumption) | exact ty_lst (by assumption)), kit_ty (by decide +kernel), ?_⟩
      | refine ⟨_, _, _, _, false, rfl, .ty _, (by first | exact .base (.int _) | exact ty_tup (by assumption) | exact ty_lst (by assumption)), kit_ty (by decide +kernel), ?_⟩
      | refine ⟨_, _, rfl, .inr (by assumption), ?_⟩
      | refine ⟨_, _, rfl, .inl (by assumption), ?_⟩
      | refine ⟨_, _, rfl, (by assumption), rfl, ?_⟩
      | refine ⟨_, rfl, ?_⟩
      | refine ⟨_, _, rfl, rfl, ?_⟩
      | refine ⟨Nat.le_of_ble_eq_true rfl, fun p hp => ?_⟩
      | refine ⟨_, _, rfl, ?_⟩
      | refine ⟨rfl, ?_⟩
      | refine ⟨mul_ok4 (by assumption) (by assumption), ?_⟩
      | fail)
    rw [decide_eq_false (int_ne h4)]
    exact q
def TieV (K : PySem.W.Frag) (H : Hp) (n : Int) (x : V) : Prop := ∃ t i j, x = V.ref t ∧ SqT K H t [.int i, .int j] ∧ (0 ≤ i ∧ i < n ∧ 0 ≤ j ∧ j < n ∧ i ≠ j)
def sp_web_of (K : PySem.W.Frag) : Sp := fun vs H Q _ => ∃ (n : Int) (a : Addr) (xs : List V), vs = [.int n, .ref a] ∧ 0 ≤ n ∧ n ≤ 12 ∧ SqL K H a xs ∧ xs.length < 60 ∧ (∀ x ∈ xs, TieV K H n x) ∧
  ∀ b y H', Same H H' → SqT K H' b [.int n, y] → Q (.ref b) H'
abbrev s_web_of : Stmt := topS 23
theorem sc_web_of : FnScope ["n", "ties", "tie"] ["n", "ties"] (defScope s_web_of) := ⟨rfl, rfl, rfl, by decide +kernel, rfl, by decide +kernel, by decide +kernel⟩
theorem fn_web_of (T : Tops K mg) : Fn P w K mg base CX0 4 "web_of" ["n", "ties"] (sp_web_of K) := by
  have h_is_count : Fn P w K mg base CX0 3 "is_count" _ _ := (fn_is_count T).mono (by decide)
  have h_is_tie : Fn P w K mg base CX0 3 "is_tie" _ _ := (fn_is_tie T).mono (by decide)
  refine T.d_web_of.fn sc_web_of (fun _ _ _ _ _ _ us hl => match us, hl with | [_, _], _ => rfl) (fun vs H Q E h => ?_) (fun f cdv A outer s H vs Q E hr h => ?_)
  · obtain ⟨n, a, xs, rfl, _⟩ := h; rfl
  · obtain ⟨n, a, xs, rfl, h0, h1, la, hl, hx, q⟩ := h
    refine ⟨_, (pss_cons (ps_if (PW.pt (pw_or (pt_not (pt_val (pe_fn h_is_count hr pass0 (pa_cons (pv 0) pa_nil)))) (pw_or1 (pt_not (pt_val (pe_callB call_isiTK (by rfl) T.B.isinstance bo_isinstance (pa_cons (pv 1) (pa_cons (pe_tup (pa_cons (pe_bltn (v := .ty "list") (by rfl) T.B.list bo_list rfl) (pa_cons (pe_bltn (v := .ty "tuple") (by rfl) T.B.tuple bo_tuple rfl) pa_nil))) pa_nil))))))))
  (pss_one ps_never)
  pss_nil)
  (pss_cons (ps_if (pt_not (pt_val (pe_callB (cr_allK rfl) (by rfl) T.B.all bo_all (pa_cons (pe_lc (own := [("tie", 2)]) (g := gName 2) (tt := tYes) rfl sc_web_of.nd (pi_list (pv 1)) (blkOk_by (N := ["n", "ties", "tie"]) (sc := defScope s_web_of) (by decide +kernel)) (fun _ _ _ _ _ => (pg_name (i := 2) sc_web_of.nd rfl (.inl rfl))) (fun _ _ _ _ _ => pts_nil) (fun _ _ _ _ _ => (pe_fn h_is_tie hr pass0 (pa_cons (pv 0) (pa_cons (pv 2) pa_nil))))) pa_nil))))
  (pss_one ps_never)
  pss_nil)
  (pss_one (ps_ret (pe_tup (pa_cons (pv 0) (pa_cons (pe_callTy call_tuple_ofK (by rfl) T.B.tuple bo_tuple (pa_cons (pe_callB (cr_sortedT rfl) (by rfl) T.B.sorted bo_sorted (pa_cons (pe_callTy (cr_setOfT rfl hr.units) (by rfl) T.B.set bo_set (pa_cons (pe_lc (own := [("tie", 2)]) (g := gName 2) (tt := tYes) rfl sc_web_of.nd (pi_list (pv 1)) (blkOk_by (N := ["n", "ties", "tie"]) (sc := defScope s_web_of) (by decide +kernel)) (fun _ _ _ _ _ => (pg_name (i := 2) sc_web_of.nd rfl (.inl rfl))) (fun _ _ _ _ _ => pts_nil) (fun _ _ _ _ _ => (pe_tup (pa_cons (pe_callB (cr_minT rfl) (by rfl) T.B.min bo_min (pa_cons (pv 2) pa_nil)) (pa_cons (pe_callB (cr_maxT rfl) (by rfl) T.B.max bo_max (pa_cons (pv 2) pa_nil)) pa_nil))))) pa_nil)) pa_nil)) pa_nil)) pa_nil))))))), ?_⟩
    repeat' (first
      | exact q
      | refine ⟨_, _, _, _, rfl, rfl, (by assumption), rfl, ?_⟩
      | refine ⟨_, _, _, _, true, rfl, .ty _, (by first | exact .base (.int _) | exact ty_tup (by assumption) | exact ty_lst (by assumption)), kit_ty (by decide +kernel), ?_⟩
      | refine ⟨_, _, _, _, false, rfl, .ty _, (by first | exact .base (.int _) | exact ty_tup (by assumption) | exact ty_lst (by assumption)), kit_ty (by decide +kernel), ?_⟩
      | refine ⟨_, _, rfl, .inr (by assumption), ?_⟩
      | refine ⟨_, _, rfl, .inl (by assumption), ?_⟩
      | refine ⟨_, _, rfl, (by assumption), rfl, ?_⟩
      | refine ⟨_, rfl, ?_⟩
      | refine ⟨_, _, rfl, rfl, ?_⟩
      | refine ⟨Nat.le_of_ble_eq_true rfl, fun p hp => ?_⟩
      | refine ⟨_, _, rfl, ?_⟩
      | refine ⟨rfl, ?_⟩
      | refine ⟨mul_ok4 (by assumption) (by assumption), ?_⟩
      | fail)
    refine ⟨h0, h1, _, rfl, ?_⟩
    repeat' (first
      | exact q
      | refine ⟨_, _, _, _, rfl, rfl, (by assumption), rfl, ?_⟩
      | refine ⟨_, _, _, _, true, rfl, .ty _, (by first | exact .base (.int _) | exact ty_tup (by assumption) | exact ty_lst (by assumption)), kit_ty (by decide +kernel), ?_⟩
      | refine ⟨_, _, _, _, false, rfl, .ty _, (by first | exact .base (.int _) | exact ty_tup (by assumption) | exact ty_lst (by assumption)), kit_ty (by decide +kernel), ?_⟩
      | refine ⟨_, _, rfl, .inr (by assumption), ?_⟩
      | refine ⟨_, _, rfl, .inl (by assumption), ?_⟩
      | refine ⟨_, _, rfl, (by assumption), rfl, ?_⟩
      | refine ⟨_, rfl, ?_⟩
      | refine ⟨_, _, rfl, rfl, ?_⟩
      | refine ⟨Nat.le_of_ble_eq_true rfl, fun p hp => ?_⟩
      | refine ⟨_, _, rfl, ?_⟩
      | refine ⟨rfl, ?_⟩
      | refine ⟨mul_ok4 (by assumption) (by assumption), ?_⟩
      | fail)
    have s1 := same_new (o := .tup [.ty "list", .ty "tuple"]) hp
    refine ⟨_, _, _, _, [.type "list", .type "tuple"], true, rfl, upd_same, .cons (.ty _) (.cons (.ty _) .nil), ty_lst (s1.seq la), rfl, ?_⟩
    repeat' (first
      | exact q
      | refine ⟨_, _, _, _, rfl, rfl, (by assumption), rfl, ?_⟩
      | refine ⟨_, _, _, _, true, rfl, .ty _, (by first | exact .base (.int _) | exact ty_tup (by assumption) | exact ty_lst (by assumption)), kit_ty (by decide +kernel), ?_⟩
      | refine ⟨_, _, _, _, false, rfl, .ty _, (by first | exact .base (.int _) | exact ty_tup (by assumption) | exact ty_lst (by assumption)), kit_ty (by decide +kernel), ?_⟩
      | refine ⟨_, _, rfl, .inr (by assumption), ?_⟩
      | refine ⟨_, _, rfl, .inl (by assumption), ?_⟩
      | refine ⟨_, _, rfl, (by assumption), rfl, ?_⟩
      | refine ⟨_, rfl, ?_⟩
      | refine ⟨_, _, rfl, rfl, ?_⟩
      | refine ⟨Nat.le_of_ble_eq_true rfl, fun p hp => ?_⟩
      | refine ⟨_, _, rfl, ?_⟩
      | refine ⟨rfl, ?_⟩
      | refine ⟨mul_ok4 (by assumption) (by assumption), ?_⟩
      | fail)
    refine ⟨⟨_, s1.seq la⟩, fun D hD => lc_a (walk_list (xs := xs)) (PBl fun _ => true) PBl.m1 PBl.m2 hD (by omega) (fun H' s => s.seq (s1.seq la)) (fun i x H' H'' Qy hi s2 y k => ?_) (fun H' hacc => ?_)⟩
    · obtain ⟨rfl, ex⟩ := y
      obtain ⟨t, u, v, rfl, tt, tb⟩ := hx x (List.mem_of_getElem? ex)
      have tt' := Same.tt (s1.trans s2) tt
      refine ⟨rfl, _, rfl, _, rfl, _, _, _, _, rfl, tt', tb, k _ _ (Same.refl _) rfl⟩
    · obtain ⟨s2, bs, eD, eb⟩ := hacc.allT
      refine ⟨_, _, rfl, SqL.of eD, _, rfl, ?_⟩
      rw [eb]
      repeat' (first
      | exact q
      | refine ⟨_, _, _, _, rfl, rfl, (by assumption), rfl, ?_⟩
      | refine ⟨_, _, _, _, true, rfl, .ty _, (by first | exact .base (.int _) | exact ty_tup (by assumption) | exact ty_lst (by assumption)), kit_ty (by decide +kernel), ?_⟩
      | refine ⟨_, _, _, _, false, rfl, .ty _, (by first | exact .base (.int _) | exact ty_tup (by assumption) | exact ty_lst (by assumption)), kit_ty (by decide +kernel), ?_⟩
      | refine ⟨_, _, rfl, .inr (by assumption), ?_⟩
      | refine ⟨_, _, rfl, .inl (by assumption), ?_⟩
      | refine ⟨_, _, rfl, (by assumption), rfl, ?_⟩
      | refine ⟨_, rfl, ?_⟩
      | refine ⟨_, _, rfl, rfl, ?_⟩
      | refine ⟨Nat.le_of_ble_eq_true rfl, fun p hp => ?_⟩
      | refine ⟨_, _, rfl, ?_⟩
      | refine ⟨rfl, ?_⟩
      | refine ⟨mul_ok4 (by assumption) (by assumption), ?_⟩
      | fail)
      have s3 : Same H H' := s1.trans s2
      refine ⟨⟨_, s3.seq la⟩, fun D2 hD2 => lc_a (walk_list (xs := xs)) (PTi K n) PTi.m1 PTi.m2 hD2 (by omega) (fun H' s => s.seq (s3.seq la)) (fun i x H1 H2 Qy hi s4 y k => ?_) (fun H1 hacc2 => ?_)⟩
      · obtain ⟨rfl, ex⟩ := y
        obtain ⟨t, u, v, rfl, tt, tb⟩ := hx x (List.mem_of_getElem? ex)
        have tt' := Same.tt (s3.trans s4) tt
        refine ⟨rfl, _, rfl, _, _, _, rfl, tt', _, rfl, _, _, _, rfl, tt', Nat.le_of_ble_eq_true rfl, fun p hp => k _ _ (same_new hp) ⟨p, _, _, rfl, TT.of upd_same, ?_⟩⟩
        omega
      · obtain ⟨s4, ys, eD2, l2, hy⟩ := hacc2
        obtain ⟨L, rfl, hL⟩ := pti_list (K := K) (n := n) (H := H1) (ys := ys) (fun y hm => by
          obtain ⟨j, hj⟩ := List.getElem?_of_mem hm
          have := (List.getElem?_eq_some_iff.mp hj).1
          have z := hy j y j hj (range_get (by simp at l2; omega))
          exact z)
        refine ⟨_, L, rfl, SqL.of eD2, fun p hp => (hL p hp).1, (by simp at l2; omega), fun S L2 hS sub _ => ?_⟩
        have s5 := same_new (o := SetTO P w S L2) hS
        refine ⟨S, L2, 2, n, rfl, upd_same, fun p hp => Same.tt s5 (hL p (sub p hp)).1, by decide, fun p hp => (hL p (sub p hp)).2, fun L3 p _ _ _ _ hp => ?_⟩
        refine ⟨_, _, rfl, .inl ⟨SqL.of upd_same, fun l hl => ?_⟩⟩
        have s6 := s3.trans (s4.trans (s5.trans ((same_new hp).trans (same_new (o := .tup (L3.map fun q => V.ref q.1)) hl))))
        refine ⟨Nat.le_of_ble_eq_true rfl, fun r hr => q r (.ref l) _ (s6.trans (same_new hr)) (TT.of upd_same)⟩
def sp_is_order (K : PySem.W.Frag) : Sp := fun vs H Q _ => ∃ (b a : Addr) (n : Nat) (y : V) (o : List Nat), vs = [.ref b, .ref a] ∧ SqT K H b [.int n, y] ∧ SqL K H a (o.map fun v => V.int (v : Nat)) ∧ o.length = n ∧ n ≤ 12 ∧ o.Nodup ∧ (∀ v ∈ o, v < n) ∧ RetB true H Q
abbrev s_is_order : Stmt := topS 24
theorem sc_is_order : FnScope ["web", "thing", "v"] ["web", "thing"] (defScope s_is_order) := ⟨rfl, rfl, rfl, by decide +kernel, rfl, by decide +kernel, by decide +kernel⟩
theorem fn_is_order (T : Tops K mg) : Fn P w K mg base CX0 3 "is_order" ["web", "thing"] (sp_is_order K) := by
  have h_is_place : Fn P w K mg base CX0 2 "is_place" _ _ := (fn_is_place T).mono (by decide)
  refine T.d_is_order.fn sc_is_order (fun _ _ _ _ _ _ us hl => match us, hl with | [_, _], _ => rfl) (fun vs H Q E h => ?_) (fun f cdv A outer s H vs Q E hr h => ?_)
  · obtain ⟨b, a, n, y, o, rfl, _⟩ := h; rfl
  · obtain ⟨b, a, n, y, o, rfl, tb, la, hl, h12, nd, hlt, q⟩ := h
    refine ⟨_, (pss_cons (ps_if (PW.pt (pw_or (pt_not (pt_val (pe_callB call_isiK1 (by rfl) T.B.isinstance bo_isinstance (pa_cons (pv 1) (pa_cons (pe_bltn (v := .ty "list") (by rfl) T.B.list bo_list rfl) pa_nil))))) (pw_or1 (pt_cmpR op_ne (pe_callB call_len_seqK (by rfl) T.B.len bo_len (pa_cons (pv 1) pa_nil)) (pe_ix ix_tupK (pv 0) pe_int (fun _ _ => rfl)) (nomark _)))))
  (pss_one (ps_ret pe_bl))
  pss_nil)
  (pss_one (ps_ret (pe_and (pe_callB (cr_allK rfl) (by rfl) T.B.all bo_all (pa_cons (pe_lc (own := [("v", 2)]) (g := gName 2) (tt := tYes) rfl sc_is_order.nd (pi_list (pv 1)) (blkOk_by (N := ["web", "thing", "v"]) (sc := defScope s_is_order) (by decide +kernel)) (fun _ _ _ _ _ => (pg_name (i := 2) sc_is_order.nd rfl (.inl rfl))) (fun _ _ _ _ _ => pts_nil) (fun _ _ _ _ _ => (pe_fn h_is_place hr pass0 (pa_cons (pe_ix ix_tupK (pv 0) pe_int (fun _ _ => rfl)) (pa_cons (pv 2) pa_nil))))) pa_nil)) (pe_one (pe_cmpR op_eq (RZ.pe_lenSetI (by rfl) T.B.len (by rfl) T.B.set (pv 1)) (pe_callB call_len_seqK (by rfl) T.B.len bo_len (pa_cons (pv 1) pa_nil)) (nomark _))))))), ?_⟩
    have e : V.int (((o.map fun v => V.int (v : Nat)).length : Nat) : Int) = V.int (n : Int) := by rw [List.length_map, hl]
    repeat' (first
      | exact q
      | refine ⟨_, _, _, _, rfl, rfl, (by assumption), rfl, ?_⟩
      | refine ⟨_, _, _, _, true, rfl, .ty _, (by first | exact .base (.int _) | exact ty_tup (by assumption) | exact ty_lst (by assumption)), kit_ty (by decide +kernel), ?_⟩
      | refine ⟨_, _, _, _, false, rfl, .ty _, (by first | exact .base (.int _) | exact ty_tup (by assumption) | exact ty_lst (by assumption)), kit_ty (by decide +kernel), ?_⟩
      | refine ⟨_, _, rfl, .inr (by assumption), ?_⟩
      | refine ⟨_, _, rfl, .inl (by assumption), ?_⟩
      | refine ⟨_, _, rfl, (by assumption), rfl, ?_⟩
      | refine ⟨_, rfl, ?_⟩
      | refine ⟨_, _, rfl, rfl, ?_⟩
      | refine ⟨Nat.le_of_ble_eq_true rfl, fun p hp => ?_⟩
      | refine ⟨_, _, rfl, ?_⟩
      | refine ⟨rfl, ?_⟩
      | refine ⟨mul_ok4 (by assumption) (by assumption), ?_⟩
      | fail)
    rw [decide_eq_true e]
    repeat' (first
      | exact q
      | refine ⟨_, _, _, _, rfl, rfl, (by assumption), rfl, ?_⟩
      | refine ⟨_, _, _, _, true, rfl, .ty _, (by first | exact .base (.int _) | exact ty_tup (by assumption) | exact ty_lst (by assumption)), kit_ty (by decide +kernel), ?_⟩
      | refine ⟨_, _, _, _, false, rfl, .ty _, (by first | exact .base (.int _) | exact ty_tup (by assumption) | exact ty_lst (by assumption)), kit_ty (by decide +kernel), ?_⟩
      | refine ⟨_, _, rfl, .inr (by assumption), ?_⟩
      | refine ⟨_, _, rfl, .inl (by assumption), ?_⟩
      | refine ⟨_, _, rfl, (by assumption), rfl, ?_⟩
      | refine ⟨_, rfl, ?_⟩
      | refine ⟨_, _, rfl, rfl, ?_⟩
      | refine ⟨Nat.le_of_ble_eq_true rfl, fun p hp => ?_⟩
      | refine ⟨_, _, rfl, ?_⟩
      | refine ⟨rfl, ?_⟩
      | refine ⟨mul_ok4 (by assumption) (by assumption), ?_⟩
      | fail)
    refine ⟨⟨_, la⟩, fun D hD => lc_a (walk_list (xs := o.map fun v => V.int (v : Nat))) (PBl fun _ => true) PBl.m1 PBl.m2 hD (by rw [List.length_map]; omega) (fun H' s => s.seq la) (fun i x H' H'' Qy hi s2 y k => ?_) (fun H' hacc => ?_)⟩
    · obtain ⟨rfl, ex⟩ := y
      rw [List.getElem?_map] at ex
      obtain ⟨v, ev, rfl⟩ := Option.map_eq_some_iff.mp ex
      have hv := hlt v (List.mem_of_getElem? ev)
      exact ⟨rfl, _, rfl, _, _, _, _, rfl, rfl, Same.tt s2 tb, rfl, _, rfl, _, _, rfl, by omega, by omega, k _ _ (Same.refl _) rfl⟩
    · obtain ⟨s2, bs, eD, eb⟩ := hacc.allT
      refine ⟨_, _, rfl, SqL.of eD, _, rfl, ?_⟩
      rw [eb]
      refine ⟨_, rfl, a, o.map (fun v : Nat => (v : Int)), rfl, ?_, ?_, ?_, ?_⟩
      · rw [List.map_map]
        exact s2.seq la
      · exact List.pairwise_map.mpr (nd.imp fun h e => h (by exact_mod_cast e))
      · rw [List.length_map]; omega
      · refine ⟨_, rfl, _, _, rfl, .inl (s2.seq la), rfl, ?_⟩
        rw [decide_eq_true (show V.int (((o.map fun v : Nat => (v : Int)).length : Nat) : Int) = V.int (((o.map fun v => V.int (v : Nat)).length : Nat) : Int) by rw [List.length_map, List.length_map])]
        exact q _ s2
/-! ### sheets -/
def sp_is_part (K : PySem.W.Frag) : Sp := fun vs H Q _ => ∃ (n : Nat) (v : V) (p : Part), vs = [.int n, v] ∧ Im K H v (partD p) ∧ p.1 < n ∧ p.2 ≠ 0 ∧ Q (.bl true) H
abbrev s_is_part : Stmt := topS 28
theorem sc_is_part : FnScope ["n", "thing"] ["n", "thing"] (defScope s_is_part) := ⟨rfl, rfl, rfl, by decide +kernel, rfl, by decide +kernel, by decide +kernel⟩
theorem fn_is_part (T : Tops K mg) : Fn P w K mg base CX0 3 "is_part" ["n", "thing"] (sp_is_part K) := by
  have h_stands_below : Fn P w K mg base CX0 2 "stands_below" _ _ := (fn_stands_below T).mono (by decide)
  have h_is_number : Fn P w K mg base CX0 2 "is_number" _ _ := (fn_is_number T).mono (by decide)
  obtain ⟨aNOUGHT, mNOUGHT, sNOUGHT⟩ := T.v_NOUGHT
  refine T.d_is_part.fn sc_is_part (fun _ _ _ _ _ _ us hl => match us, hl with | [_, _], _ => rfl) (fun vs H Q E h => ?_) (fun f cdv A outer s H vs Q E hr h => ?_)
  · obtain ⟨n, v, p, rfl, _⟩ := h; rfl
  · obtain ⟨n, v, p, rfl, iv, h1, h2, q⟩ := h
    obtain ⟨a, x, rfl, ta, ix⟩ := part_inv iv
    refine ⟨_, (pss_cons (ps_if (PW.pt (pw_or (pt_not (pt_val (pe_callB call_isiK1 (by rfl) T.B.isinstance bo_isinstance (pa_cons (pv 1) (pa_cons (pe_bltn (v := .ty "tuple") (by rfl) T.B.tuple bo_tuple rfl) pa_nil))))) (pw_or1 (pt_cmpR op_ne (pe_callB call_len_seqK (by rfl) T.B.len bo_len (pa_cons (pv 1) pa_nil)) pe_int (nomark _)))))
  (pss_one (ps_ret pe_bl))
  pss_nil)
  (pss_one (ps_ret (pe_and (pe_fn h_stands_below hr pass0 (pa_cons (pv 0) (pa_cons (pe_ix ix_tupK (pv 1) pe_int (fun _ _ => rfl)) pa_nil))) (pe_and (pe_fn h_is_number hr pass0 (pa_cons (pe_ix ix_tupK (pv 1) pe_int (fun _ _ => rfl)) pa_nil)) (pe_one (pe_cmpR (op_neDK hr.units) (pe_ix ix_tupK (pv 1) pe_int (fun _ _ => rfl)) (pe_glob (v := .ref aNOUGHT) (by rfl) mNOUGHT rfl) (nomark _)))))))), ?_⟩
    repeat' (first
      | exact q
      | refine ⟨_, _, _, _, rfl, rfl, (by assumption), rfl, ?_⟩
      | refine ⟨_, _, _, _, true, rfl, .ty _, (by first | exact .base (.int _) | exact ty_tup (by assumption) | exact ty_lst (by assumption)), kit_ty (by decide +kernel), ?_⟩
      | refine ⟨_, _, _, _, false, rfl, .ty _, (by first | exact .base (.int _) | exact ty_tup (by assumption) | exact ty_lst (by assumption)), kit_ty (by decide +kernel), ?_⟩
      | refine ⟨_, _, rfl, .inr (by assumption), ?_⟩
      | refine ⟨_, _, rfl, .inl (by assumption), ?_⟩
      | refine ⟨_, _, rfl, (by assumption), rfl, ?_⟩
      | refine ⟨_, rfl, ?_⟩
      | refine ⟨_, _, rfl, rfl, ?_⟩
      | refine ⟨Nat.le_of_ble_eq_true rfl, fun p hp => ?_⟩
      | refine ⟨_, _, rfl, ?_⟩
      | refine ⟨rfl, ?_⟩
      | refine ⟨mul_ok4 (by assumption) (by assumption), ?_⟩
      | fail)
    refine ⟨by omega, by omega, _, rfl, ?_⟩
    repeat' (first
      | exact q
      | refine ⟨_, _, _, _, rfl, rfl, (by assumption), rfl, ?_⟩
      | refine ⟨_, _, _, _, true, rfl, .ty _, (by first | exact .base (.int _) | exact ty_tup (by assumption) | exact ty_lst (by assumption)), kit_ty (by decide +kernel), ?_⟩
      | refine ⟨_, _, _, _, false, rfl, .ty _, (by first | exact .base (.int _) | exact ty_tup (by assumption) | exact ty_lst (by assumption)), kit_ty (by decide +kernel), ?_⟩
      | refine ⟨_, _, rfl, .inr (by assumption), ?_⟩
      | refine ⟨_, _, rfl, .inl (by assumption), ?_⟩
      | refine ⟨_, _, rfl, (by assumption), rfl, ?_⟩
      | refine ⟨_, rfl, ?_⟩
      | refine ⟨_, _, rfl, rfl, ?_⟩
      | refine ⟨Nat.le_of_ble_eq_true rfl, fun p hp => ?_⟩
      | refine ⟨_, _, rfl, ?_⟩
      | refine ⟨rfl, ?_⟩
      | refine ⟨mul_ok4 (by assumption) (by assumption), ?_⟩
      | fail)
    refine ⟨_, _, rfl, ix, _, rfl, ?_⟩
    repeat' (first
      | exact q
      | refine ⟨_, _, _, _, rfl, rfl, (by assumption), rfl, ?_⟩
      | refine ⟨_, _, _, _, true, rfl, .ty _, (by first | exact .base (.int _) | exact ty_tup (by assumption) | exact ty_lst (by assumption)), kit_ty (by decide +kernel), ?_⟩
      | refine ⟨_, _, _, _, false, rfl, .ty _, (by first | exact .base (.int _) | exact ty_tup (by assumption) | exact ty_lst (by assumption)), kit_ty (by decide +kernel), ?_⟩
      | refine ⟨_, _, rfl, .inr (by assumption), ?_⟩
      | refine ⟨_, _, rfl, .inl (by assumption), ?_⟩
      | refine ⟨_, _, rfl, (by assumption), rfl, ?_⟩
      | refine ⟨_, rfl, ?_⟩
      | refine ⟨_, _, rfl, rfl, ?_⟩
      | refine ⟨Nat.le_of_ble_eq_true rfl, fun p hp => ?_⟩
      | refine ⟨_, _, rfl, ?_⟩
      | refine ⟨rfl, ?_⟩
      | refine ⟨mul_ok4 (by assumption) (by assumption), ?_⟩
      | fail)
    refine ⟨_, _, ix.dp, (im_nought sNOUGHT H).dp, (shp_num _).shaped (by decide), (shp_num _).shaped (by decide), ?_⟩
    rw [eqv_num, decide_eq_false h2]
    exact q
structure GoodRow (n : Nat) (r : List Part) : Prop where
  inc : (r.map (·.1)).Pairwise (· < ·)
  good : ∀ p ∈ r, p.1 < n ∧ p.2 ≠ 0
theorem GoodRow.len {n : Nat} {r : List Part} (h : GoodRow n r) : r.length ≤ n := by
  have h1 : (r.map (·.1)).Nodup := h.inc.imp (fun h => Nat.ne_of_lt h)
  have := nodup_le h1 (fun a ha => by
    obtain ⟨p, hp, rfl⟩ := List.mem_map.mp ha
    exact (h.good p hp).1)
  simpa using this
def sp_is_sheet_row (K : PySem.W.Frag) : Sp := fun vs H Q _ => ∃ (n : Nat) (v : V) (r : List Part), vs = [.int n, v] ∧ Im K H v (rowD r) ∧ n ≤ 12 ∧ GoodRow n r ∧ RetB true H Q
abbrev s_is_sheet_row : Stmt := topS 29
theorem sc_is_sheet_row : FnScope ["n", "thing", "part", "places"] ["n", "thing"] (defScope s_is_sheet_row) := ⟨rfl, rfl, rfl, by decide +kernel, rfl, by decide +kernel, by decide +kernel⟩
theorem fn_is_sheet_row (T : Tops K mg) : Fn P w K mg base CX0 4 "is_sheet_row" ["n", "thing"] (sp_is_sheet_row K) := by
  have h_is_part : Fn P w K mg base CX0 3 "is_part" _ _ := (fn_is_part T).mono (by decide)
  refine T.d_is_sheet_row.fn sc_is_sheet_row (fun _ _ _ _ _ _ us hl => match us, hl with | [_, _], _ => rfl) (fun vs H Q E h => ?_) (fun f cdv A outer s H vs Q E hr h => ?_)
  · obtain ⟨n, v, r, rfl, _⟩ := h; rfl
  · obtain ⟨n, v, r, rfl, iv, h12, gr, q⟩ := h
    obtain ⟨a, xs, rfl, ta, ixs⟩ := row_inv iv
    have lr := gr.len
    have lx : xs.length = r.length := by rw [ixs.length, List.length_map]
    have got : ∀ {i : Nat} {x : V} {H' : Hp}, xs[i]? = some x → Same H H' → ∃ p : Part, r[i]? = some p ∧ p.1 < n ∧ p.2 ≠ 0 ∧ Im K H' x (partD p) := fun {i x H'} ex s => by
      obtain ⟨d, ed, id⟩ := ixs.got ex
      rw [List.getElem?_map] at ed
      obtain ⟨p, ep, rfl⟩ := Option.map_eq_some_iff.mp ed
      obtain ⟨g1, g2⟩ := gr.good p (List.mem_of_getElem? ep)
      exact ⟨p, ep, g1, g2, id.mono s.tup⟩
    refine ⟨_, (pss_cons (ps_if (PW.pt (pw_or (pt_not (pt_val (pe_callB call_isiK1 (by rfl) T.B.isinstance bo_isinstance (pa_cons (pv 1) (pa_cons (pe_bltn (v := .ty "tuple") (by rfl) T.B.tuple bo_tuple rfl) pa_nil))))) (pw_or1 (pt_not (pt_val (pe_callB (cr_allK rfl) (by rfl) T.B.all bo_all (pa_cons (pe_lc (own := [("part", 2)]) (g := gName 2) (tt := tYes) rfl sc_is_sheet_row.nd (pi_tup (pv 1)) (blkOk_by (N := ["n", "thing", "part", "places"]) (sc := defScope s_is_sheet_row) (by decide +kernel)) (fun _ _ _ _ _ => (pg_name (i := 2) sc_is_sheet_row.nd rfl (.inl rfl))) (fun _ _ _ _ _ => pts_nil) (fun _ _ _ _ _ => (pe_fn h_is_part hr pass0 (pa_cons (pv 0) (pa_cons (pv 2) pa_nil))))) pa_nil)))))))
  (pss_one (ps_ret pe_bl))
  pss_nil)
  (pss_cons (ps_setLc (i := 3) (own := [("part", 2)]) (g := gName 2) (tt := tYes) rfl sc_is_sheet_row.nd rfl rfl (sw_true rfl rfl rfl (by decide +kernel)) (pi_tup (pv 1)) (blkOk_by (N := ["n", "thing", "part", "places"]) (sc := defScope s_is_sheet_row) (by decide +kernel)) (fun _ _ _ _ _ => (pg_name (i := 2) sc_is_sheet_row.nd rfl (.inl rfl))) (fun _ _ _ _ _ => pts_nil) (fun _ _ _ _ _ => (pe_ix ix_tupK (pv 2) pe_int (fun _ _ => rfl))))
  (pss_one (ps_ret (pe_cmpR (op_eqDK hr.units) (pv 3) (pe_callB (cr_sortedSet rfl) (by rfl) T.B.sorted bo_sorted (pa_cons (pe_callTy (cr_setLI rfl) (by rfl) T.B.set bo_set (pa_cons (pv 3) pa_nil)) pa_nil)) (nomark _)))))), ?_⟩
    repeat' (first
      | exact q
      | refine ⟨_, _, _, _, rfl, rfl, (by assumption), rfl, ?_⟩
      | refine ⟨_, _, _, _, true, rfl, .ty _, (by first | exact .base (.int _) | exact ty_tup (by assumption) | exact ty_lst (by assumption)), kit_ty (by decide +kernel), ?_⟩
      | refine ⟨_, _, _, _, false, rfl, .ty _, (by first | exact .base (.int _) | exact ty_tup (by assumption) | exact ty_lst (by assumption)), kit_ty (by decide +kernel), ?_⟩
      | refine ⟨_, _, rfl, .inr (by assumption), ?_⟩
      | refine ⟨_, _, rfl, .inl (by assumption), ?_⟩
      | refine ⟨_, _, rfl, (by assumption), rfl, ?_⟩
      | refine ⟨_, rfl, ?_⟩
      | refine ⟨_, _, rfl, rfl, ?_⟩
      | refine ⟨Nat.le_of_ble_eq_true rfl, fun p hp => ?_⟩
      | refine ⟨_, _, rfl, ?_⟩
      | refine ⟨rfl, ?_⟩
      | refine ⟨mul_ok4 (by assumption) (by assumption), ?_⟩
      | fail)
    refine ⟨⟨_, ta⟩, fun D hD => lc_a (walk_tup (xs := xs)) (PBl fun _ => true) PBl.m1 PBl.m2 hD (by omega) (fun H' s => Same.tt s ta) (fun i x H' H'' Qy hi s2 y k => ?_) (fun H' hacc => ?_)⟩
    · obtain ⟨rfl, ex⟩ := y
      obtain ⟨p, _, g1, g2, ip⟩ := got ex s2
      exact ⟨rfl, _, rfl, _, rfl, n, x, p, rfl, ip, g1, g2, k _ _ (Same.refl _) rfl⟩
    · obtain ⟨s2, bs, eD, eb⟩ := hacc.allT
      refine ⟨_, _, rfl, SqL.of eD, _, rfl, ?_⟩
      rw [eb]
      have ta2 := Same.tt s2 ta
      repeat' (first
      | exact q
      | refine ⟨_, _, _, _, rfl, rfl, (by assumption), rfl, ?_⟩
      | refine ⟨_, _, _, _, true, rfl, .ty _, (by first | exact .base (.int _) | exact ty_tup (by assumption) | exact ty_lst (by assumption)), kit_ty (by decide +kernel), ?_⟩
      | refine ⟨_, _, _, _, false, rfl, .ty _, (by first | exact .base (.int _) | exact ty_tup (by assumption) | exact ty_lst (by assumption)), kit_ty (by decide +kernel), ?_⟩
      | refine ⟨_, _, rfl, .inr (by assumption), ?_⟩
      | refine ⟨_, _, rfl, .inl (by assumption), ?_⟩
      | refine ⟨_, _, rfl, (by assumption), rfl, ?_⟩
      | refine ⟨_, rfl, ?_⟩
      | refine ⟨_, _, rfl, rfl, ?_⟩
      | refine ⟨Nat.le_of_ble_eq_true rfl, fun p hp => ?_⟩
      | refine ⟨_, _, rfl, ?_⟩
      | refine ⟨rfl, ?_⟩
      | refine ⟨mul_ok4 (by assumption) (by assumption), ?_⟩
      | fail)
      refine ⟨⟨_, ta2⟩, fun D2 hD2 => lc_a (walk_tup (xs := xs)) (PVl fun i => V.int (((r.getD i default).1 : Nat) : Int)) PVl.m1 PVl.m2 hD2 (by omega) (fun H' s => Same.tt s ta2) (fun i x H1 H2 Qy hi s3 y k => ?_) (fun H1 hacc2 => ?_)⟩
      · obtain ⟨rfl, ex⟩ := y
        obtain ⟨p, ep, g1, g2, ip⟩ := got ex (s2.trans s3)
        obtain ⟨t, z, rfl, tt, _⟩ := part_inv ip
        refine ⟨rfl, _, rfl, _, _, _, _, rfl, rfl, tt, rfl, k _ _ (Same.refl _) ?_⟩
        show V.int _ = V.int (((r.getD i default).1 : Nat) : Int)
        rw [List.getD_eq_getElem?_getD, ep]
        rfl
      · obtain ⟨s3, eD2⟩ := hacc2.vl
        rw [lx, map_range_v r (fun p => V.int ((p.1 : Nat) : Int))] at eD2
        have e2 : (r.map fun p => V.int ((p.1 : Nat) : Int)) = (r.map fun p => ((p.1 : Nat) : Int)).map V.int := by rw [List.map_map]; rfl
        rw [e2] at eD2
        refine ⟨_, rfl, _, rfl, D2, r.map fun p => ((p.1 : Nat) : Int), rfl, SqL.of eD2, (by rw [List.length_map]; omega), fun S c hS hc => ?_⟩
        refine ⟨S, _, _, rfl, upd_same, (by rw [List.length_map] at hc; omega), fun ns pq inc mem _ hp => ?_⟩
        have en : ns = r.map fun p => ((p.1 : Nat) : Int) := inc_eq inc (by
          have := gr.inc
          rw [List.pairwise_map] at this ⊢
          exact this.imp fun h => by exact_mod_cast h) (fun k => by rw [mem k, decide_eq_true_eq])
        subst en
        have s4 := (same_new hS).trans (same_new (o := .lst ((r.map fun p : Part => ((p.1 : Nat) : Int)).map V.int)) hp)
        refine ⟨_, _, .lst (SqL.of (s4 _ _ eD2)) (dp_ints _), .lst (SqL.of upd_same) (dp_ints _), (shp_ints _).shaped (by decide), (shp_ints _).shaped (by decide), ?_⟩
        rw [eqv_ints]
        exact q _ (s2.trans (s3.trans s4))
def GoodRows (n : Nat) (rows : List (List Part)) : Prop := rows.length = n ∧ n ≤ 12 ∧ ∀ r ∈ rows, GoodRow n r
def sp_is_sheet (K : PySem.W.Frag) : Sp := fun vs H Q _ => ∃ (n : Nat) (v : V) (rows : List (List Part)), vs = [v] ∧ Im K H v (sheetD n rows) ∧ GoodRows n rows ∧ RetB true H Q
theorem sheet_inv {K : PySem.W.Frag} {H : Hp} {v : V} {n : Nat} {rows : List (List Part)} (h : Im K H v (sheetD n rows)) : ∃ a b xs, v = .ref a ∧ SqT K H a [.int n, .ref b] ∧ SqT K H b xs ∧ ImAll K H xs (rows.map rowD) := by
  obtain ⟨a, xs, rfl, t, z⟩ := h.tup_inv
  obtain ⟨x, y, rfl, h1, h2⟩ := z.two_inv
  obtain ⟨b, ys, rfl, tb, iy⟩ := h2.tup_inv
  rw [h1.int_inv] at t
  exact ⟨a, b, ys, rfl, t, tb, iy⟩
theorem imAll_at {K : PySem.W.Frag} {H H' : Hp} {α : Type} {D : α → PyData} {xs : List V} {l : List α} (h : ImAll K H xs (l.map D)) (s : Same H H') {i : Nat} {x : V} (e : xs[i]? = some x) : ∃ a, l[i]? = some a ∧ Im K H' x (D a) := by
  obtain ⟨d, ed, id⟩ := h.got e
  rw [List.getElem?_map] at ed
  obtain ⟨p, ep, rfl⟩ := Option.map_eq_some_iff.mp ed
  exact ⟨p, ep, id.mono s.tup⟩
abbrev s_is_sheet : Stmt := topS 30
theorem sc_is_sheet : FnScope ["thing", "n", "rows", "row"] ["thing"] (defScope s_is_sheet) := ⟨rfl, rfl, rfl, by decide +kernel, rfl, by decide +kernel, by decide +kernel⟩
theorem fn_is_sheet (T : Tops K mg) : Fn P w K mg base CX0 5 "is_sheet" ["thing"] (sp_is_sheet K) := by
  have h_is_whole : Fn P w K mg base CX0 4 "is_whole" _ _ := (fn_is_whole T).mono (by decide)
  have h_is_sheet_row : Fn P w K mg base CX0 4 "is_sheet_row" _ _ := (fn_is_sheet_row T).mono (by decide)
  obtain ⟨tsheets, mMOST_PLACES_sheets⟩ := T.v_MOST_PLACES_sheets
  refine T.d_is_sheet.fn sc_is_sheet (fun _ _ _ _ _ _ us hl => match us, hl with | [_], _ => rfl) (fun vs H Q E h => ?_) (fun f cdv A outer s H vs Q E hr h => ?_)
  · obtain ⟨n, v, rows, rfl, _⟩ := h; rfl
  · obtain ⟨n, v, rows, rfl, iv, ⟨hl, h12, gr⟩, q⟩ := h
    obtain ⟨a, b, xs, rfl, ta, tb, ixs⟩ := sheet_inv iv
    have lx : xs.length = n := by rw [ixs.length, List.length_map, hl]
    have tb0 := tb
    refine ⟨_, (pss_cons (ps_if (PW.pt (pw_or (pt_not (pt_val (pe_callB call_isiK1 (by rfl) T.B.isinstance bo_isinstance (pa_cons (pv 0) (pa_cons (pe_bltn (v := .ty "tuple") (by rfl) T.B.tuple bo_tuple rfl) pa_nil))))) (pw_or (pt_cmpR op_ne (pe_callB call_len_seqK (by rfl) T.B.len bo_len (pa_cons (pv 0) pa_nil)) pe_int (nomark _)) (pw_or (pt_not (pt_val (pe_fn h_is_whole hr pass0 (pa_cons (pe_ix ix_tupK (pv 0) pe_int (fun _ _ => rfl)) pa_nil)))) (pw_or1 (pt_not (pt_val (pe_callB call_isiK1 (by rfl) T.B.isinstance bo_isinstance (pa_cons (pe_ix ix_tupK (pv 0) pe_int (fun _ _ => rfl)) (pa_cons (pe_bltn (v := .ty "tuple") (by rfl) T.B.tuple bo_tuple rfl) pa_nil))))))))))
  (pss_one (ps_ret pe_bl))
  pss_nil)
  (pss_cons (ps_asg (pv 0) (pg_tup rfl (pgs_cons (pg_name (i := 1) sc_is_sheet.nd rfl (.inr rfl)) (pgs_cons (pg_name (i := 2) sc_is_sheet.nd rfl (.inl rfl)) pgs_nil))))
  (pss_one (ps_ret (pe_and (pe_chain op_le op_le pe_int (pv 1) (pe_glob (v := .int 12) (by rfl) mMOST_PLACES_sheets ⟨_, rfl⟩)) (pe_and (pe_cmpR op_eq (pe_callB call_len_seqK (by rfl) T.B.len bo_len (pa_cons (pv 2) pa_nil)) (pv 1) (nomark _)) (pe_one (pe_callB (cr_allK rfl) (by rfl) T.B.all bo_all (pa_cons (pe_lc (own := [("row", 3)]) (g := gName 3) (tt := tYes) rfl sc_is_sheet.nd (pi_tup (pv 2)) (blkOk_by (N := ["thing", "n", "rows", "row"]) (sc := defScope s_is_sheet) (by decide +kernel)) (fun _ _ _ _ _ => (pg_name (i := 3) sc_is_sheet.nd rfl (.inl rfl))) (fun _ _ _ _ _ => pts_nil) (fun _ _ _ _ _ => (pe_fn h_is_sheet_row hr pass0 (pa_cons (pv 1) (pa_cons (pv 3) pa_nil))))) pa_nil))))))))), ?_⟩
    repeat' (first
      | exact q
      | refine ⟨_, _, _, _, rfl, rfl, (by assumption), rfl, ?_⟩
      | refine ⟨_, _, _, _, true, rfl, .ty _, (by first | exact .base (.int _) | exact ty_tup (by assumption) | exact ty_lst (by assumption)), kit_ty (by decide +kernel), ?_⟩
      | refine ⟨_, _, _, _, false, rfl, .ty _, (by first | exact .base (.int _) | exact ty_tup (by assumption) | exact ty_lst (by assumption)), kit_ty (by decide +kernel), ?_⟩
      | refine ⟨_, _, rfl, .inr (by assumption), ?_⟩
      | refine ⟨_, _, rfl, .inl (by assumption), ?_⟩
      | refine ⟨_, _, rfl, (by assumption), rfl, ?_⟩
      | refine ⟨_, rfl, ?_⟩
      | refine ⟨_, _, rfl, rfl, ?_⟩
      | refine ⟨Nat.le_of_ble_eq_true rfl, fun p hp => ?_⟩
      | refine ⟨_, _, rfl, ?_⟩
      | refine ⟨rfl, ?_⟩
      | refine ⟨mul_ok4 (by assumption) (by assumption), ?_⟩
      | fail)
    rw [decide_eq_true (show (n : Int) ≤ 12 by omega)]
    repeat' (first
      | exact q
      | refine ⟨_, _, _, _, rfl, rfl, (by assumption), rfl, ?_⟩
      | refine ⟨_, _, _, _, true, rfl, .ty _, (by first | exact .base (.int _) | exact ty_tup (by assumption) | exact ty_lst (by assumption)), kit_ty (by decide +kernel), ?_⟩
      | refine ⟨_, _, _, _, false, rfl, .ty _, (by first | exact .base (.int _) | exact ty_tup (by assumption) | exact ty_lst (by assumption)), kit_ty (by decide +kernel), ?_⟩
      | refine ⟨_, _, rfl, .inr (by assumption), ?_⟩
      | refine ⟨_, _, rfl, .inl (by assumption), ?_⟩
      | refine ⟨_, _, rfl, (by assumption), rfl, ?_⟩
      | refine ⟨_, rfl, ?_⟩
      | refine ⟨_, _, rfl, rfl, ?_⟩
      | refine ⟨Nat.le_of_ble_eq_true rfl, fun p hp => ?_⟩
      | refine ⟨_, _, rfl, ?_⟩
      | refine ⟨rfl, ?_⟩
      | refine ⟨mul_ok4 (by assumption) (by assumption), ?_⟩
      | fail)
    rw [decide_eq_true (show V.int ((xs.length : Nat) : Int) = V.int (n : Int) by rw [lx])]
    repeat' (first
      | exact q
      | refine ⟨_, _, _, _, rfl, rfl, (by assumption), rfl, ?_⟩
      | refine ⟨_, _, _, _, true, rfl, .ty _, (by first | exact .base (.int _) | exact ty_tup (by assumption) | exact ty_lst (by assumption)), kit_ty (by decide +kernel), ?_⟩
      | refine ⟨_, _, _, _, false, rfl, .ty _, (by first | exact .base (.int _) | exact ty_tup (by assumption) | exact ty_lst (by assumption)), kit_ty (by decide +kernel), ?_⟩
      | refine ⟨_, _, rfl, .inr (by assumption), ?_⟩
      | refine ⟨_, _, rfl, .inl (by assumption), ?_⟩
      | refine ⟨_, _, rfl, (by assumption), rfl, ?_⟩
      | refine ⟨_, rfl, ?_⟩
      | refine ⟨_, _, rfl, rfl, ?_⟩
      | refine ⟨Nat.le_of_ble_eq_true rfl, fun p hp => ?_⟩
      | refine ⟨_, _, rfl, ?_⟩
      | refine ⟨rfl, ?_⟩
      | refine ⟨mul_ok4 (by assumption) (by assumption), ?_⟩
      | fail)
    refine ⟨⟨_, tb⟩, fun D hD => lc_a (walk_tup (xs := xs)) (PBl fun _ => true) PBl.m1 PBl.m2 hD (by omega) (fun H' s => Same.tt s tb) (fun i x H' H'' Qy hi s2 y k => ?_) (fun H' hacc => ?_)⟩
    · obtain ⟨rfl, ex⟩ := y
      obtain ⟨r, er, ir⟩ := imAll_at ixs s2 ex
      exact ⟨rfl, _, rfl, _, rfl, n, x, r, rfl, ir, h12, gr r (List.mem_of_getElem? er), fun H3 s3 => k _ _ s3 rfl⟩
    · obtain ⟨s2, bs, eD, eb⟩ := hacc.allT
      refine ⟨_, _, rfl, SqL.of eD, ?_⟩
      rw [eb]
      exact q _ s2
/-! ### sheet_of -/
/-- a list of lists of parts -/
def Lists (K : PySem.W.Frag) (H : Hp) (xs : List V) (rs : List (List Part)) : Prop := xs.length = rs.length ∧ ∀ (i : Nat) (x : V) (r : List Part), xs[i]? = some x → rs[i]? = some r → ∃ b ys, x = .ref b ∧ SqL K H b ys ∧ ImAll K H ys (r.map partD)
theorem Lists.mono {K : PySem.W.Frag} {H H' : Hp} {xs : List V} {rs : List (List Part)} (h : Lists K H xs rs) (s : Same H H') : Lists K H' xs rs := ⟨h.1, fun i x r e1 e2 => by
  obtain ⟨b, ys, e, l, m⟩ := h.2 i x r e1 e2
  exact ⟨b, ys, e, s.seq l, m.mono s.tup⟩⟩
def sp_sheet_of (K : PySem.W.Frag) : Sp := fun vs H Q _ => ∃ (n : Nat) (a : Addr) (xs : List V) (rs rows : List (List Part)), vs = [.int n, .ref a] ∧ SqL K H a xs ∧ Lists K H xs rs ∧ rs.length = rows.length ∧ GoodRows n rows ∧
  (∀ (i : Nat) (r s : List Part), rs[i]? = some r → rows[i]? = some s → r.Perm s) ∧ RetIm K (sheetD n rows) H Q
abbrev s_sheet_of : Stmt := topS 31
theorem sc_sheet_of : FnScope ["n", "rows", "made", "row", "part", "found"] ["n", "rows"] (defScope s_sheet_of) := ⟨rfl, rfl, rfl, by decide +kernel, rfl, by decide +kernel, by decide +kernel⟩
theorem fn_sheet_of (T : Tops K mg) : Fn P w K mg base CX0 6 "sheet_of" ["n", "rows"] (sp_sheet_of K) := by
  have h_is_sheet : Fn P w K mg base CX0 5 "is_sheet" _ _ := (fn_is_sheet T).mono (by decide)
  have h_is_whole : Fn P w K mg base CX0 5 "is_whole" _ _ := (fn_is_whole T).mono (by decide)
  have h_is_part : Fn P w K mg base CX0 5 "is_part" _ _ := (fn_is_part T).mono (by decide)
  refine T.d_sheet_of.fn sc_sheet_of (fun _ _ _ _ _ _ us hl => match us, hl with | [_, _], _ => rfl) (fun vs H Q E h => ?_) (fun f cdv A outer s H vs Q E hr h => ?_)
  · obtain ⟨n, a, xs, rs, rows, rfl, _⟩ := h; rfl
  · obtain ⟨n, a, xs, rs, rows, rfl, la, lx, lr, ⟨hl, h12, gr⟩, hpm, q⟩ := h
    have lrn : xs.length = n := by rw [lx.1, lr, hl]
    refine ⟨_, (pss_cons (ps_if (PW.pt (pw_or (pt_not (pt_val (pe_fn h_is_whole hr pass0 (pa_cons (pv 0) pa_nil)))) (pw_or1 (pt_not (pt_val (pe_callB call_isiTK (by rfl) T.B.isinstance bo_isinstance (pa_cons (pv 1) (pa_cons (pe_tup (pa_cons (pe_bltn (v := .ty "list") (by rfl) T.B.list bo_list rfl) (pa_cons (pe_bltn (v := .ty "tuple") (by rfl) T.B.tuple bo_tuple rfl) pa_nil))) pa_nil))))))))
  (pss_one ps_never)
  pss_nil)
  (pss_cons (ps_set (i := 2) sc_sheet_of.nd rfl (.inl rfl) (pe_lst pa_nil))
  (pss_cons (ps_for PassesOwn.never rfl (pi_list (pv 1)) (pg_name (i := 3) sc_sheet_of.nd rfl (.inl rfl))
  (pss_cons (ps_if (PW.pt (pw_or (pt_not (pt_val (pe_callB call_isiTK (by rfl) T.B.isinstance bo_isinstance (pa_cons (pv 3) (pa_cons (pe_tup (pa_cons (pe_bltn (v := .ty "list") (by rfl) T.B.list bo_list rfl) (pa_cons (pe_bltn (v := .ty "tuple") (by rfl) T.B.tuple bo_tuple rfl) pa_nil))) pa_nil))))) (pw_or1 (pt_not (pt_val (pe_callB (cr_allK rfl) (by rfl) T.B.all bo_all (pa_cons (pe_lc (own := [("part", 4)]) (g := gName 4) (tt := tYes) rfl sc_sheet_of.nd (pi_list (pv 3)) (blkOk_by (N := ["n", "rows", "made", "row", "part", "found"]) (sc := defScope s_sheet_of) (by decide +kernel)) (fun _ _ _ _ _ => (pg_name (i := 4) sc_sheet_of.nd rfl (.inl rfl))) (fun _ _ _ _ _ => pts_nil) (fun _ _ _ _ _ => (pe_fn h_is_part hr pass0 (pa_cons (pv 0) (pa_cons (pv 4) pa_nil))))) pa_nil)))))))
  (pss_one ps_never)
  pss_nil)
  (pss_one (ps_expr (pe_bm PySem.F.plainAttrs_list PySem.F.slot_list_append PySem.F.type_list_append mt_append (pv 2) (pa_cons (pe_callTy call_tuple_ofK (by rfl) T.B.tuple bo_tuple (pa_cons (pe_callB cr_sortedH (by rfl) T.B.sorted bo_sorted (pa_cons (pv 3) pa_nil)) pa_nil)) pa_nil))))))
  (pss_cons (ps_set (i := 5) sc_sheet_of.nd rfl (.inl rfl) (pe_tup (pa_cons (pv 0) (pa_cons (pe_callTy call_tuple_ofK (by rfl) T.B.tuple bo_tuple (pa_cons (pv 2) pa_nil)) pa_nil))))
  (pss_cons (ps_if (pt_not (pt_val (pe_fn h_is_sheet hr pass0 (pa_cons (pv 5) pa_nil))))
  (pss_one ps_never)
  pss_nil)
  (pss_one (ps_ret (pv 5)))))))), ?_⟩
    repeat' (first
      | exact q
      | refine ⟨_, _, _, _, rfl, rfl, (by assumption), rfl, ?_⟩
      | refine ⟨_, _, _, _, true, rfl, .ty _, (by first | exact .base (.int _) | exact ty_tup (by assumption) | exact ty_lst (by assumption)), kit_ty (by decide +kernel), ?_⟩
      | refine ⟨_, _, _, _, false, rfl, .ty _, (by first | exact .base (.int _) | exact ty_tup (by assumption) | exact ty_lst (by assumption)), kit_ty (by decide +kernel), ?_⟩
      | refine ⟨_, _, rfl, .inr (by assumption), ?_⟩
      | refine ⟨_, _, rfl, .inl (by assumption), ?_⟩
      | refine ⟨_, _, rfl, (by assumption), rfl, ?_⟩
      | refine ⟨_, rfl, ?_⟩
      | refine ⟨_, _, rfl, rfl, ?_⟩
      | refine ⟨Nat.le_of_ble_eq_true rfl, fun p hp => ?_⟩
      | refine ⟨_, _, rfl, ?_⟩
      | refine ⟨rfl, ?_⟩
      | refine ⟨mul_ok4 (by assumption) (by assumption), ?_⟩
      | fail)
    revert p
    intro p1 hp1
    have s1 := same_new (o := .tup [.ty "list", .ty "tuple"]) hp1
    refine ⟨_, _, _, _, [.type "list", .type "tuple"], true, rfl, upd_same, .cons (.ty _) (.cons (.ty _) .nil), ty_lst (s1.seq la), rfl, ?_⟩
    repeat' (first
      | exact q
      | refine ⟨_, _, _, _, rfl, rfl, (by assumption), rfl, ?_⟩
      | refine ⟨_, _, _, _, true, rfl, .ty _, (by first | exact .base (.int _) | exact ty_tup (by assumption) | exact ty_lst (by assumption)), kit_ty (by decide +kernel), ?_⟩
      | refine ⟨_, _, _, _, false, rfl, .ty _, (by first | exact .base (.int _) | exact ty_tup (by assumption) | exact ty_lst (by assumption)), kit_ty (by decide +kernel), ?_⟩
      | refine ⟨_, _, rfl, .inr (by assumption), ?_⟩
      | refine ⟨_, _, rfl, .inl (by assumption), ?_⟩
      | refine ⟨_, _, rfl, (by assumption), rfl, ?_⟩
      | refine ⟨_, rfl, ?_⟩
      | refine ⟨_, _, rfl, rfl, ?_⟩
      | refine ⟨Nat.le_of_ble_eq_true rfl, fun p hp => ?_⟩
      | refine ⟨_, _, rfl, ?_⟩
      | refine ⟨rfl, ?_⟩
      | refine ⟨mul_ok4 (by assumption) (by assumption), ?_⟩
      | fail)
    revert p
    intro M hp2
    have s2 := s1.trans (same_new (o := .lst []) hp2)
    have hM : H M = none := s1.free hp2
    refine ⟨⟨_, s2.seq la⟩, for_it (walk_list (xs := xs)) (fun i σ H' => ∃ v, σ = [some (.int n), some (.ref a), some (.ref M), v, none, none] ∧ Same H H' ∧ ∃ ys, H' M = some (.lst ys) ∧ ImAll K H' ys ((rows.take i).map rowD))
      ⟨none, rfl, s2, [], upd_same, .nil⟩ (fun i σ H' _ ⟨_, _, s3, _⟩ => s3.seq la) ?_ ?_⟩
    · rintro i x σ H' H'' hi ⟨v, rfl, s3, ys, eM, iys⟩ ⟨rfl, ex⟩
      have hir : i < rs.length := by rw [← lx.1]; exact hi
      have hiw : i < rows.length := by omega
      obtain ⟨b, zs, rfl, lb, iz⟩ := (lx.mono s3).2 i x rs[i] ex (List.getElem?_eq_getElem hir)
      have pm := hpm i rs[i] rows[i] (List.getElem?_eq_getElem hir) (List.getElem?_eq_getElem hiw)
      have gr1 := gr rows[i] (List.getElem_mem hiw)
      have lz : zs.length = rs[i].length := by rw [iz.length, List.length_map]
      have l12 : rs[i].length ≤ 12 := by rw [pm.length_eq]; have := gr1.len; omega
      repeat' (first
      | exact q
      | refine ⟨_, _, _, _, rfl, rfl, (by assumption), rfl, ?_⟩
      | refine ⟨_, _, _, _, true, rfl, .ty _, (by first | exact .base (.int _) | exact ty_tup (by assumption) | exact ty_lst (by assumption)), kit_ty (by decide +kernel), ?_⟩
      | refine ⟨_, _, _, _, false, rfl, .ty _, (by first | exact .base (.int _) | exact ty_tup (by assumption) | exact ty_lst (by assumption)), kit_ty (by decide +kernel), ?_⟩
      | refine ⟨_, _, rfl, .inr (by assumption), ?_⟩
      | refine ⟨_, _, rfl, .inl (by assumption), ?_⟩
      | refine ⟨_, _, rfl, (by assumption), rfl, ?_⟩
      | refine ⟨_, rfl, ?_⟩
      | refine ⟨_, _, rfl, rfl, ?_⟩
      | refine ⟨Nat.le_of_ble_eq_true rfl, fun p hp => ?_⟩
      | refine ⟨_, _, rfl, ?_⟩
      | refine ⟨rfl, ?_⟩
      | refine ⟨mul_ok4 (by assumption) (by assumption), ?_⟩
      | fail)
      have t1 := same_new (o := .tup [.ty "list", .ty "tuple"]) hp
      refine ⟨_, _, _, _, [.type "list", .type "tuple"], true, rfl, upd_same, .cons (.ty _) (.cons (.ty _) .nil), ty_lst (t1.seq lb), rfl, ?_⟩
      repeat' (first
      | exact q
      | refine ⟨_, _, _, _, rfl, rfl, (by assumption), rfl, ?_⟩
      | refine ⟨_, _, _, _, true, rfl, .ty _, (by first | exact .base (.int _) | exact ty_tup (by assumption) | exact ty_lst (by assumption)), kit_ty (by decide +kernel), ?_⟩
      | refine ⟨_, _, _, _, false, rfl, .ty _, (by first | exact .base (.int _) | exact ty_tup (by assumption) | exact ty_lst (by assumption)), kit_ty (by decide +kernel), ?_⟩
      | refine ⟨_, _, rfl, .inr (by assumption), ?_⟩
      | refine ⟨_, _, rfl, .inl (by assumption), ?_⟩
      | refine ⟨_, _, rfl, (by assumption), rfl, ?_⟩
      | refine ⟨_, rfl, ?_⟩
      | refine ⟨_, _, rfl, rfl, ?_⟩
      | refine ⟨Nat.le_of_ble_eq_true rfl, fun p hp => ?_⟩
      | refine ⟨_, _, rfl, ?_⟩
      | refine ⟨rfl, ?_⟩
      | refine ⟨mul_ok4 (by assumption) (by assumption), ?_⟩
      | fail)
      refine ⟨⟨_, t1.seq lb⟩, fun D hD => lc_a (walk_list (xs := zs)) (PBl fun _ => true) PBl.m1 PBl.m2 hD (by omega) (fun H' s => s.seq (t1.seq lb)) (fun j y H1 H2 Qy hj s4 yy k => ?_) (fun H1 hacc => ?_)⟩
      · obtain ⟨rfl, ey⟩ := yy
        obtain ⟨pt, ep, ip⟩ := imAll_at iz (t1.trans s4) ey
        obtain ⟨g1, g2⟩ := gr1.good pt (pm.mem_iff.mp (List.mem_of_getElem? ep))
        exact ⟨rfl, _, rfl, _, rfl, n, y, pt, rfl, ip, g1, g2, k _ _ (Same.refl _) rfl⟩
      · obtain ⟨s4, bs, eD, eb⟩ := hacc.allT
        refine ⟨_, _, rfl, SqL.of eD, _, rfl, ?_⟩
        rw [eb]
        have t2 := t1.trans s4
        repeat' (first
      | exact q
      | refine ⟨_, _, _, _, rfl, rfl, (by assumption), rfl, ?_⟩
      | refine ⟨_, _, _, _, true, rfl, .ty _, (by first | exact .base (.int _) | exact ty_tup (by assumption) | exact ty_lst (by assumption)), kit_ty (by decide +kernel), ?_⟩
      | refine ⟨_, _, _, _, false, rfl, .ty _, (by first | exact .base (.int _) | exact ty_tup (by assumption) | exact ty_lst (by assumption)), kit_ty (by decide +kernel), ?_⟩
      | refine ⟨_, _, rfl, .inr (by assumption), ?_⟩
      | refine ⟨_, _, rfl, .inl (by assumption), ?_⟩
      | refine ⟨_, _, rfl, (by assumption), rfl, ?_⟩
      | refine ⟨_, rfl, ?_⟩
      | refine ⟨_, _, rfl, rfl, ?_⟩
      | refine ⟨Nat.le_of_ble_eq_true rfl, fun p hp => ?_⟩
      | refine ⟨_, _, rfl, ?_⟩
      | refine ⟨rfl, ?_⟩
      | refine ⟨mul_ok4 (by assumption) (by assumption), ?_⟩
      | fail)
        refine ⟨.inl ⟨rfl, _, SqL.of (t2 _ _ eM)⟩, ?_⟩
        repeat' (first
      | exact q
      | refine ⟨_, _, _, _, rfl, rfl, (by assumption), rfl, ?_⟩
      | refine ⟨_, _, _, _, true, rfl, .ty _, (by first | exact .base (.int _) | exact ty_tup (by assumption) | exact ty_lst (by assumption)), kit_ty (by decide +kernel), ?_⟩
      | refine ⟨_, _, _, _, false, rfl, .ty _, (by first | exact .base (.int _) | exact ty_tup (by assumption) | exact ty_lst (by assumption)), kit_ty (by decide +kernel), ?_⟩
      | refine ⟨_, _, rfl, .inr (by assumption), ?_⟩
      | refine ⟨_, _, rfl, .inl (by assumption), ?_⟩
      | refine ⟨_, _, rfl, (by assumption), rfl, ?_⟩
      | refine ⟨_, rfl, ?_⟩
      | refine ⟨_, _, rfl, rfl, ?_⟩
      | refine ⟨Nat.le_of_ble_eq_true rfl, fun p hp => ?_⟩
      | refine ⟨_, _, rfl, ?_⟩
      | refine ⟨rfl, ?_⟩
      | refine ⟨mul_ok4 (by assumption) (by assumption), ?_⟩
      | fail)
        refine ⟨Part, b, zs, rs[i], fun p => (p.1 : Int), partD, rfl, t2.seq lb, iz.mono t2.tup, fun p _ => ⟨_, rfl⟩, ?_, fun ys2 p2 l2 perm inc im hp2 => ?_⟩
        · have := (pm.map (fun x : Part => x.1)).nodup_iff.mpr (gr1.inc.imp (fun h => Nat.ne_of_lt h))
          rw [List.Nodup, List.pairwise_map] at this ⊢
          exact this.imp fun h e => h (by exact_mod_cast e)
        have el : l2 = rows[i] := part_eq (by
          rw [List.pairwise_map]
          exact inc.imp fun {a b} h => by
            have h' : ((a.1 : Nat) : Int) < ((b.1 : Nat) : Int) := h
            omega) gr1.inc (perm.trans pm)
        subst el
        refine ⟨_, _, rfl, .inl ⟨SqL.of upd_same, fun l hl => ?_⟩⟩
        have t3 := t2.trans ((same_new (o := .lst ys2) hp2).trans (same_new (o := .tup ys2) hl))
        have eM3 := t3 _ _ eM
        have ir : Im K (upd (upd H1 p2 (.lst ys2)) l (.tup ys2)) (.ref l) (rowD rows[i]) := .tup (.of upd_same) (im.mono ((same_new hp2).trans (same_new hl)).tup)
        have iy := iys.mono t3.tup
        refine ⟨_, _, _, rfl, rfl, eM3, small1000 (by rw [iys.length, List.length_map, List.length_take]; omega), _, rfl, Same.mut (s3.trans t3) hM, _, upd_same, ?_⟩
        have tm : Tup (upd (upd H1 p2 (.lst ys2)) l (.tup ys2)) (upd (upd (upd H1 p2 (.lst ys2)) l (.tup ys2)) M (.lst (ys ++ [.ref l]))) := .lst eM3
        rw [List.take_succ, List.getElem?_eq_getElem hiw, List.map_append]
        exact (iy.mono tm).append (.one (ir.mono tm))
    · rintro σ H1 ⟨v, rfl, s3, ys, eM, iys⟩
      rw [List.take_of_length_le (by omega)] at iys
      repeat' (first
      | exact q
      | refine ⟨_, _, _, _, rfl, rfl, (by assumption), rfl, ?_⟩
      | refine ⟨_, _, _, _, true, rfl, .ty _, (by first | exact .base (.int _) | exact ty_tup (by assumption) | exact ty_lst (by assumption)), kit_ty (by decide +kernel), ?_⟩
      | refine ⟨_, _, _, _, false, rfl, .ty _, (by first | exact .base (.int _) | exact ty_tup (by assumption) | exact ty_lst (by assumption)), kit_ty (by decide +kernel), ?_⟩
      | refine ⟨_, _, rfl, .inr (by assumption), ?_⟩
      | refine ⟨_, _, rfl, .inl (by assumption), ?_⟩
      | refine ⟨_, _, rfl, (by assumption), rfl, ?_⟩
      | refine ⟨_, rfl, ?_⟩
      | refine ⟨_, _, rfl, rfl, ?_⟩
      | refine ⟨Nat.le_of_ble_eq_true rfl, fun p hp => ?_⟩
      | refine ⟨_, _, rfl, ?_⟩
      | refine ⟨rfl, ?_⟩
      | refine ⟨mul_ok4 (by assumption) (by assumption), ?_⟩
      | fail)
      refine ⟨_, _, rfl, .inl ⟨SqL.of eM, fun l hl2 => ?_⟩⟩
      have t1 := same_new (o := .tup ys) hl2
      repeat' (first
      | exact q
      | refine ⟨_, _, _, _, rfl, rfl, (by assumption), rfl, ?_⟩
      | refine ⟨_, _, _, _, true, rfl, .ty _, (by first | exact .base (.int _) | exact ty_tup (by assumption) | exact ty_lst (by assumption)), kit_ty (by decide +kernel), ?_⟩
      | refine ⟨_, _, _, _, false, rfl, .ty _, (by first | exact .base (.int _) | exact ty_tup (by assumption) | exact ty_lst (by assumption)), kit_ty (by decide +kernel), ?_⟩
      | refine ⟨_, _, rfl, .inr (by assumption), ?_⟩
      | refine ⟨_, _, rfl, .inl (by assumption), ?_⟩
      | refine ⟨_, _, rfl, (by assumption), rfl, ?_⟩
      | refine ⟨_, rfl, ?_⟩
      | refine ⟨_, _, rfl, rfl, ?_⟩
      | refine ⟨Nat.le_of_ble_eq_true rfl, fun p hp => ?_⟩
      | refine ⟨_, _, rfl, ?_⟩
      | refine ⟨rfl, ?_⟩
      | refine ⟨mul_ok4 (by assumption) (by assumption), ?_⟩
      | fail)
      have t2 := t1.trans (same_new (o := .tup [.int n, .ref l]) hp)
      have isf : Im K (upd (upd H1 l (.tup ys)) p (.tup [.int n, .ref l])) (.ref p) (sheetD n rows) :=
        .tup (.of upd_same) (.cons (.int _) (.cons (.tup (TT.mono (same_new hp).tup (.of upd_same)) (iys.mono t2.tup)) .nil))
      refine ⟨n, _, rows, rfl, isf, ⟨hl, h12, gr⟩, fun H2 s4 => ?_⟩
      repeat' (first
      | exact q
      | refine ⟨_, _, _, _, rfl, rfl, (by assumption), rfl, ?_⟩
      | refine ⟨_, _, _, _, true, rfl, .ty _, (by first | exact .base (.int _) | exact ty_tup (by assumption) | exact ty_lst (by assumption)), kit_ty (by decide +kernel), ?_⟩
      | refine ⟨_, _, _, _, false, rfl, .ty _, (by first | exact .base (.int _) | exact ty_tup (by assumption) | exact ty_lst (by assumption)), kit_ty (by decide +kernel), ?_⟩
      | refine ⟨_, _, rfl, .inr (by assumption), ?_⟩
      | refine ⟨_, _, rfl, .inl (by assumption), ?_⟩
      | refine ⟨_, _, rfl, (by assumption), rfl, ?_⟩
      | refine ⟨_, rfl, ?_⟩
      | refine ⟨_, _, rfl, rfl, ?_⟩
      | refine ⟨Nat.le_of_ble_eq_true rfl, fun p hp => ?_⟩
      | refine ⟨_, _, rfl, ?_⟩
      | refine ⟨rfl, ?_⟩
      | refine ⟨mul_ok4 (by assumption) (by assumption), ?_⟩
      | fail)
      exact q _ _ (s3.trans (t2.trans s4)) (isf.mono s4.tup)
def sp_web_of_sheet (K : PySem.W.Frag) : Sp := fun vs H Q _ => ∃ (n : Nat) (v : V) (rows : List (List Part)), vs = [v] ∧ Im K H v (sheetD n rows) ∧ GoodRows n rows ∧ n ≤ 7 ∧ ∀ b y H', Same H H' → SqT K H' b [.int n, y] → Q (.ref b) H'
abbrev s_web_of_sheet : Stmt := topS 32
theorem sc_web_of_sheet : FnScope ["sheet", "ties", "i", "row", "j", "number"] ["sheet"] (defScope s_web_of_sheet) := ⟨rfl, rfl, rfl, by decide +kernel, rfl, by decide +kernel, by decide +kernel⟩
theorem fn_web_of_sheet (T : Tops K mg) : Fn P w K mg base CX0 7 "web_of_sheet" ["sheet"] (sp_web_of_sheet K) := by
  have h_web_of : Fn P w K mg base CX0 6 "web_of" _ _ := (fn_web_of T).mono (by decide)
  refine T.d_web_of_sheet.fn sc_web_of_sheet (fun _ _ _ _ _ _ us hl => match us, hl with | [_], _ => rfl) (fun vs H Q E h => ?_) (fun f cdv A outer s H vs Q E hr h => ?_)
  · obtain ⟨n, v, rows, rfl, _⟩ := h; rfl
  · obtain ⟨n, v, rows, rfl, iv, ⟨hl, h12, gr⟩, h7, q⟩ := h
    obtain ⟨a, b, xs, rfl, ta, tb, ixs⟩ := sheet_inv iv
    have lx : xs.length = n := by rw [ixs.length, List.length_map, hl]
    refine ⟨_, (pss_cons (ps_set (i := 1) sc_web_of_sheet.nd rfl (.inl rfl) (pe_lst pa_nil))
  (pss_cons (ps_for PassesOwn.never rfl (pi_enumT (by rfl) T.B.enumerate (pa_cons (pe_ix ix_tupK (pv 0) pe_int (fun _ _ => rfl)) pa_nil)) (pg_tup rfl (pgs_cons (pg_name (i := 2) sc_web_of_sheet.nd rfl (.inr rfl)) (pgs_cons (pg_name (i := 3) sc_web_of_sheet.nd rfl (.inl rfl)) pgs_nil)))
  (pss_one (ps_expr (pe_bm PySem.F.plainAttrs_list PySem.F.slot_list_extend PySem.F.type_list_extend mt_extend (pv 1) (pa_cons (pe_lc (own := [("j", 4), ("number", 5)]) (g := gTup K 2 (gCons (gName 4) (gCons (gName 5) (gNil)))) rfl sc_web_of_sheet.nd (pi_tup (pv 3)) (blkOk_by (N := ["sheet", "ties", "i", "row", "j", "number"]) (sc := defScope s_web_of_sheet) (by decide +kernel)) (fun _ _ _ _ _ => (pg_tup rfl (pgs_cons (pg_name (i := 4) sc_web_of_sheet.nd rfl (.inl rfl)) (pgs_cons (pg_name (i := 5) sc_web_of_sheet.nd rfl (.inl rfl)) pgs_nil)))) (fun _ _ _ _ _ => pts_one (pt_cmpR op_ne (pv 4) (pv 2) (nomark _))) (fun _ _ _ _ _ => (pe_tup (pa_cons (pv 2) (pa_cons (pv 4) pa_nil))))) pa_nil)))))
  (pss_one (ps_ret (pe_fn h_web_of hr pass0 (pa_cons (pe_ix ix_tupK (pv 0) pe_int (fun _ _ => rfl)) (pa_cons (pv 1) pa_nil))))))), ?_⟩
    repeat' (first
      | exact q
      | refine ⟨_, _, _, _, rfl, rfl, (by assumption), rfl, ?_⟩
      | refine ⟨_, _, _, _, true, rfl, .ty _, (by first | exact .base (.int _) | exact ty_tup (by assumption) | exact ty_lst (by assumption)), kit_ty (by decide +kernel), ?_⟩
      | refine ⟨_, _, _, _, false, rfl, .ty _, (by first | exact .base (.int _) | exact ty_tup (by assumption) | exact ty_lst (by assumption)), kit_ty (by decide +kernel), ?_⟩
      | refine ⟨_, _, rfl, .inr (by assumption), ?_⟩
      | refine ⟨_, _, rfl, .inl (by assumption), ?_⟩
      | refine ⟨_, _, rfl, (by assumption), rfl, ?_⟩
      | refine ⟨_, rfl, ?_⟩
      | refine ⟨_, _, rfl, rfl, ?_⟩
      | refine ⟨Nat.le_of_ble_eq_true rfl, fun p hp => ?_⟩
      | refine ⟨_, _, rfl, ?_⟩
      | refine ⟨rfl, ?_⟩
      | refine ⟨mul_ok4 (by assumption) (by assumption), ?_⟩
      | fail)
    revert p
    intro M hM
    have s1 := same_new (o := .lst []) hM
    refine ⟨_, _, _, _, rfl, rfl, Same.tt s1 ta, rfl, ?_⟩
    refine ⟨_, xs, rfl, Same.tt s1 tb, for_it walk_enumT (fun i σ H' => ∃ u v, σ = [some (.ref a), some (.ref M), u, v, none, none] ∧ Same H H' ∧ ∃ ys, H' M = some (.lst ys) ∧ ys.length ≤ i * 7 ∧ ∀ y ∈ ys, TieV K H' n y)
      ⟨none, none, rfl, s1, [], upd_same, Nat.zero_le _, fun y hy => by simp at hy⟩ (fun i σ H' _ ⟨_, _, _, s3, _⟩ => Same.tt s3 tb) ?_ ?_⟩
    · rintro i x σ H1 H2 hi ⟨u, v, rfl, s3, ys, eM, lys, hys⟩ ⟨T1, x0, y0, rfl, hT, rfl, ex, ey⟩
      cases ex
      obtain ⟨r, er, ir⟩ := imAll_at ixs s3 ey
      have gr1 := gr r (List.mem_of_getElem? er)
      obtain ⟨b, zs, rfl, lb, iz⟩ := row_inv ir
      have lz : zs.length = r.length := by rw [iz.length, List.length_map]
      have lr := gr1.len
      have t1 := same_new (o := .tup [.int (i : Nat), .ref b]) hT
      refine ⟨_, _, rfl, TT.of upd_same, rfl, ?_⟩
      repeat' (first
      | exact q
      | refine ⟨_, _, _, _, rfl, rfl, (by assumption), rfl, ?_⟩
      | refine ⟨_, _, _, _, true, rfl, .ty _, (by first | exact .base (.int _) | exact ty_tup (by assumption) | exact ty_lst (by assumption)), kit_ty (by decide +kernel), ?_⟩
      | refine ⟨_, _, _, _, false, rfl, .ty _, (by first | exact .base (.int _) | exact ty_tup (by assumption) | exact ty_lst (by assumption)), kit_ty (by decide +kernel), ?_⟩
      | refine ⟨_, _, rfl, .inr (by assumption), ?_⟩
      | refine ⟨_, _, rfl, .inl (by assumption), ?_⟩
      | refine ⟨_, _, rfl, (by assumption), rfl, ?_⟩
      | refine ⟨_, rfl, ?_⟩
      | refine ⟨_, _, rfl, rfl, ?_⟩
      | refine ⟨Nat.le_of_ble_eq_true rfl, fun p hp => ?_⟩
      | refine ⟨_, _, rfl, ?_⟩
      | refine ⟨rfl, ?_⟩
      | refine ⟨mul_ok4 (by assumption) (by assumption), ?_⟩
      | fail)
      refine ⟨.inl ⟨rfl, _, SqL.of (t1 _ _ eM)⟩, ?_⟩
      refine ⟨_, rfl, _, rfl, ⟨_, Same.tt t1 lb⟩, fun D hD => lc_f (walk_tup (xs := zs)) (fun k => decide ((r.getD k default).1 ≠ i)) (fun _ y H => TieV K H n y) (fun _ _ _ _ s ⟨t, u, v, e, p, bb⟩ => ⟨t, u, v, e, Same.tt s p, bb⟩)
        (fun _ _ _ _ _ e ⟨t, u, v, e1, p, bb⟩ => ⟨t, u, v, e1, TT.mono (.lst e) p, bb⟩) hD (by omega) (fun H' s => Same.tt (t1.trans s) lb) (fun j y H3 H4 Qy Qn hj s4 yy ky kn => ?_) (fun H3 hacc => ?_)⟩
      · obtain ⟨rfl, ey2⟩ := yy
        obtain ⟨pt, ep, ip⟩ := imAll_at iz (t1.trans s4) ey2
        obtain ⟨g1, g2⟩ := gr1.good pt (List.mem_of_getElem? ep)
        obtain ⟨t, z, rfl, tt, _⟩ := part_inv ip
        have ed : (r.getD j default) = pt := by rw [List.getD_eq_getElem?_getD, ep]; rfl
        rw [ed] at ky kn
        refine ⟨_, _, rfl, tt, rfl, _, _, rfl, _, _, rfl, rfl, rfl, _, rfl, _, rfl, rfl, _, rfl, ?_⟩
        by_cases hne : pt.1 = i
        · rw [decide_eq_true (show V.int ((pt.1 : Nat) : Int) = V.int (i : Nat) by rw [hne])]
          exact kn (by simp [hne]) _ (Same.refl _)
        · rw [decide_eq_false (int_ne (show ((pt.1 : Nat) : Int) ≠ (i : Nat) by omega))]
          refine ⟨_, rfl, _, rfl, Nat.le_of_ble_eq_true rfl, fun p hp => ky (by simp [hne]) _ _ (same_new hp) ⟨p, _, _, rfl, TT.of upd_same, ?_⟩⟩
          omega
      · obtain ⟨s4, zs2, eD, l2, hz⟩ := hacc
        have t2 := t1.trans s4
        have lk : ((List.range zs.length).filter (fun k => decide ((r.getD k default).1 ≠ i))).length ≤ 7 := by
          have := List.length_filter_le (fun k => decide ((r.getD k default).1 ≠ i)) (List.range zs.length)
          rw [List.length_range] at this
          omega
        refine ⟨_, _, _, _, rfl, rfl, t2 _ _ eM, eD, Nat.le_trans (show ys.length + zs2.length ≤ 1000 by omega) (by decide), ?_⟩
        refine ⟨_, _, rfl, Same.mut (s3.trans t2) hM, _, upd_same, ?_, fun y hy => ?_⟩
        · rw [List.length_append]; omega
        · have tm : Tup H3 (upd H3 M (.lst (ys ++ zs2))) := .lst (t2 _ _ eM)
          rcases List.mem_append.mp hy with hy | hy
          · obtain ⟨t, u, v, e, p, bb⟩ := hys y hy
            exact ⟨t, u, v, e, TT.mono tm (Same.tt t2 p), bb⟩
          · obtain ⟨j, hj⟩ := List.getElem?_of_mem hy
            have hj2 := (List.getElem?_eq_some_iff.mp hj).1
            obtain ⟨t, u, v, e, p, bb⟩ := hz j y _ hj (List.getElem?_eq_getElem (by omega))
            exact ⟨t, u, v, e, TT.mono tm p, bb⟩
    · rintro σ H1 ⟨u, v, rfl, s3, ys, eM, lys, hys⟩
      have ta3 := Same.tt s3 ta
      repeat' (first
      | exact q
      | refine ⟨_, _, _, _, rfl, rfl, (by assumption), rfl, ?_⟩
      | refine ⟨_, _, _, _, true, rfl, .ty _, (by first | exact .base (.int _) | exact ty_tup (by assumption) | exact ty_lst (by assumption)), kit_ty (by decide +kernel), ?_⟩
      | refine ⟨_, _, _, _, false, rfl, .ty _, (by first | exact .base (.int _) | exact ty_tup (by assumption) | exact ty_lst (by assumption)), kit_ty (by decide +kernel), ?_⟩
      | refine ⟨_, _, rfl, .inr (by assumption), ?_⟩
      | refine ⟨_, _, rfl, .inl (by assumption), ?_⟩
      | refine ⟨_, _, rfl, (by assumption), rfl, ?_⟩
      | refine ⟨_, rfl, ?_⟩
      | refine ⟨_, _, rfl, rfl, ?_⟩
      | refine ⟨Nat.le_of_ble_eq_true rfl, fun p hp => ?_⟩
      | refine ⟨_, _, rfl, ?_⟩
      | refine ⟨rfl, ?_⟩
      | refine ⟨mul_ok4 (by assumption) (by assumption), ?_⟩
      | fail)
      refine ⟨n, M, ys, rfl, by omega, by omega, SqL.of eM, by omega, hys, fun b y H2 s4 tt => q b y H2 (s3.trans s4) tt⟩
end
end FW
end

/-! ## W4a -/
section
set_option Elab.async false
set_option linter.all false
set_option maxRecDepth 100000
set_option maxHeartbeats 4000000
namespace FW
open PySem PySem.Spec PyProof.Rows L2 FF
/-! ### rows as dicts -/
theorem kint {i j : Nat} : ((Sum.inl (i : Int) : Key) = .inl (j : Int)) ↔ i = j := by
  constructor
  · intro h; injection h with h; omega
  · intro h; rw [h]
theorem valV_drop (kvs : List (Key × V)) (k j : Key) : valV (dropK kvs k) j = if j = k then none else valV kvs j := by
  induction kvs with
  | nil => simp [dropK, valV]
  | cons p r ih =>
    unfold dropK at ih ⊢
    by_cases h : p.1 = k
    · rw [List.filter_cons_of_neg (by simp [h]), ih]
      by_cases e : j = k
      · rw [if_pos e, if_pos e]
      · rw [if_neg e, if_neg e, valV_neg (fun z => e (z.symm.trans h))]
    · rw [List.filter_cons_of_pos (by simp [h])]
      by_cases e : p.1 = j
      · rw [valV_pos e, valV_pos e, if_neg (fun z => h (e.trans z))]
      · rw [valV_neg e, valV_neg e, ih]
theorem valV_mem {kvs : List (Key × V)} {k : Key} {v : V} (h : valV kvs k = some v) : (k, v) ∈ kvs := by
  unfold valV at h
  obtain ⟨p, hp, rfl⟩ := Option.map_eq_some_iff.mp h
  have h1 := List.mem_of_find?_eq_some hp
  have h2 := List.find?_some hp
  simp at h2
  rw [← h2]
  exact h1
theorem valV_of_mem : ∀ {kvs : List (Key × V)} {k : Key} {v : V}, (kvs.map (·.1)).Nodup → (k, v) ∈ kvs → valV kvs k = some v
  | p :: r, k, v, nd, h => by
    rw [List.map_cons, List.nodup_cons] at nd
    rcases List.mem_cons.mp h with e | h
    · rw [← e]; exact valV_pos rfl
    · rw [valV_neg (fun z => nd.1 (by rw [z]; exact List.mem_map.mpr ⟨_, h, rfl⟩))]
      exact valV_of_mem nd.2 h
theorem keys_put {kvs : List (Key × V)} {k : Key} {v : V} (nd : (kvs.map (·.1)).Nodup) : ((putK kvs k v).map (·.1)).Nodup ∧ ∀ p ∈ putK kvs k v, p.1 = k ∨ ∃ q ∈ kvs, q.1 = p.1 := by
  unfold putK
  by_cases a : (kvs.any fun kv => decide (kv.1 = k)) = true
  · rw [if_pos a]
    constructor
    · have : (kvs.map fun kv => if kv.1 = k then (kv.1, v) else kv).map (·.1) = kvs.map (·.1) := by
        rw [List.map_map]
        refine List.map_congr_left fun p _ => ?_
        show (if p.1 = k then (p.1, v) else p).1 = p.1
        split <;> rfl
      rw [this]; exact nd
    · intro p hp
      obtain ⟨q, hq, rfl⟩ := List.mem_map.mp hp
      refine .inr ⟨q, hq, ?_⟩
      split <;> rfl
  · rw [if_neg a]
    constructor
    · rw [List.map_append, List.nodup_append]
      refine ⟨nd, by simp, fun x hx y hy e => a ?_⟩
      simp at hy
      subst hy
      subst e
      obtain ⟨q, hq, e⟩ := List.mem_map.mp hx
      exact List.any_eq_true.mpr ⟨q, hq, by simp [e]⟩
    · intro p hp
      rcases List.mem_append.mp hp with hp | hp
      · exact .inr ⟨p, hp, rfl⟩
      · simp at hp
        exact .inl (by rw [hp])
/-- the dict's rows: at j either nothing, and f j is nought, or f j -/
structure DR (K : PySem.W.Frag) (H : Hp) (n : Nat) (st : Bool) (f : Nat → Rat) (kvs : List (Key × V)) : Prop where
  nd : (kvs.map (·.1)).Nodup
  ks : ∀ p ∈ kvs, ∃ j : Nat, p.1 = .inl (j : Int) ∧ j < n
  vs : ∀ j < n, (valV kvs (.inl (j : Int)) = none ∧ f j = 0) ∨ ∃ v, valV kvs (.inl (j : Int)) = some v ∧ Im K H v (numD (f j)) ∧ (st = true → f j ≠ 0)
section
variable {K : PySem.W.Frag} {H H' : Hp} {n : Nat} {st : Bool} {f g : Nat → Rat} {kvs : List (Key × V)}
theorem DR.mono (h : DR K H n st f kvs) (t : Tup H H') : DR K H' n st f kvs := ⟨h.nd, h.ks, fun j hj => by
  rcases h.vs j hj with e | ⟨v, e, i, z⟩
  · exact .inl e
  · exact .inr ⟨v, e, i.mono t, z⟩⟩
theorem DR.congr (h : DR K H n st f kvs) (e : ∀ j < n, f j = g j) : DR K H n st g kvs := ⟨h.nd, h.ks, fun j hj => by rw [← e j hj]; exact h.vs j hj⟩
theorem DR.nil : DR K H n st (fun _ => 0) [] := ⟨by simp, fun p hp => by simp at hp, fun j _ => .inl ⟨rfl, rfl⟩⟩
theorem DR.len (h : DR K H n st f kvs) : kvs.length ≤ n := by
  let φ : Key → Nat := fun k => match k with | .inl i => i.toNat | .inr _ => 0
  have nd : (kvs.map fun p => φ p.1).Nodup := by
    have := h.nd
    rw [List.Nodup, List.pairwise_map] at this ⊢
    refine List.Pairwise.imp_of_mem (fun {a b} ha hb hne e => hne ?_) this
    obtain ⟨i, ei, _⟩ := h.ks a ha
    obtain ⟨j, ej, _⟩ := h.ks b hb
    rw [ei, ej] at e ⊢
    have e' : i = j := by simpa [φ] using e
    rw [e']
  have := nodup_le (n := n) nd fun x hx => by
    obtain ⟨p, hp, rfl⟩ := List.mem_map.mp hx
    obtain ⟨j, ej, hj⟩ := h.ks p hp
    rw [ej]
    simpa [φ] using hj
  simpa using this
theorem DR.put (h : DR K H n st f kvs) {j : Nat} (hj : j < n) {v : V} {x : Rat} (iv : Im K H v (numD x)) (hx : st = true → x ≠ 0) : DR K H n st (fun k => if k = j then x else f k) (putK kvs (.inl (j : Int)) v) := by
  obtain ⟨n1, n2⟩ := keys_put (k := .inl (j : Int)) (v := v) h.nd
  refine ⟨n1, fun p hp => ?_, fun k hk => ?_⟩
  · rcases n2 p hp with e | ⟨q, hq, e⟩
    · exact ⟨j, e, hj⟩
    · rw [← e]; exact h.ks q hq
  · rw [valV_put]
    by_cases e : k = j
    · subst e
      rw [if_pos rfl]
      refine .inr ⟨v, rfl, ?_⟩
      simp only [if_true]
      exact ⟨iv, hx⟩
    · rw [if_neg (fun z => e (kint.mp z))]
      simp only [e, if_false]
      exact h.vs k hk
theorem DR.drop (h : DR K H n st f kvs) {j : Nat} : DR K H n st (fun k => if k = j then 0 else f k) (dropK kvs (.inl (j : Int))) := by
  refine ⟨?_, fun p hp => h.ks p (List.mem_filter.mp hp).1, fun k hk => ?_⟩
  · have := h.nd
    unfold dropK
    rw [List.Nodup, List.pairwise_map] at this ⊢
    exact this.filter _
  · rw [valV_drop]
    by_cases e : k = j
    · subst e
      rw [if_pos rfl]
      exact .inl ⟨rfl, by simp⟩
    · rw [if_neg (fun z => e (kint.mp z))]
      simp only [e, if_false]
      exact h.vs k hk
end
/-! ### own = own - q * row -/
def aw (q : Rat) : List Part → (Nat → Rat) → Nat → Rat
  | [], f => f
  | p :: r, f => aw q r fun k => if k = p.1 then f p.1 - q * p.2 else f k
theorem aw_snoc (q : Rat) (p : Part) : ∀ (r : List Part) (f : Nat → Rat), aw q (r ++ [p]) f = fun k => if k = p.1 then aw q r f p.1 - q * p.2 else aw q r f k
  | [], f => rfl
  | a :: r, f => by
    show aw q (r ++ [p]) _ = _
    rw [aw_snoc q p r]; rfl
theorem aw_out (q : Rat) {k : Nat} : ∀ {r : List Part} {f : Nat → Rat}, (∀ p ∈ r, p.1 ≠ k) → aw q r f k = f k
  | [], f, _ => rfl
  | a :: r, f, h => by
    show aw q r _ k = _
    rw [aw_out q (fun p hp => h p (List.mem_cons_of_mem _ hp)), if_neg (fun e => h a List.mem_cons_self e.symm)]
theorem aw_in (q : Rat) {k : Nat} {x : Rat} : ∀ {r : List Part} {f : Nat → Rat}, (r.map (·.1)).Nodup → (k, x) ∈ r → aw q r f k = f k - q * x
  | a :: r, f, nd, h => by
    rw [List.map_cons, List.nodup_cons] at nd
    show aw q r _ k = _
    rcases List.mem_cons.mp h with rfl | h
    · rw [aw_out q (fun p hp e => nd.1 (by rw [← e]; exact List.mem_map.mpr ⟨p, hp, rfl⟩))]
      simp
    · rw [aw_in q nd.2 h]
      have : k ≠ a.1 := fun e => nd.1 (by rw [← e]; exact List.mem_map.mpr ⟨_, h, rfl⟩)
      simp [this]
theorem parts_nodup {l : List Nat} {g : Nat → Rat} (h : l.Nodup) : ((parts l g).map (·.1)).Nodup := by
  unfold parts
  rw [List.map_map]
  have : ((fun p : Part => p.1) ∘ fun j => (j, g j)) = id := rfl
  rw [this, List.map_id]
  exact h.filter _
theorem mem_parts {l : List Nat} {g : Nat → Rat} {p : Part} : p ∈ parts l g ↔ p.1 ∈ l ∧ g p.1 ≠ 0 ∧ p.2 = g p.1 := by
  unfold parts
  rw [List.mem_map]
  constructor
  · rintro ⟨j, hj, rfl⟩
    obtain ⟨h1, h2⟩ := List.mem_filter.mp hj
    exact ⟨h1, by simpa using h2, rfl⟩
  · rintro ⟨h1, h2, h3⟩
    exact ⟨p.1, List.mem_filter.mpr ⟨h1, by simpa using h2⟩, by rw [← h3]⟩
theorem aw_parts (q : Rat) {l : List Nat} {g f : Nat → Rat} (h : l.Nodup) (k : Nat) : aw q (parts l g) f k = if k ∈ l then f k - q * g k else f k := by
  by_cases hk : k ∈ l
  · rw [if_pos hk]
    by_cases hg : g k = 0
    · rw [aw_out q (fun p hp e => (mem_parts.mp hp).2.1 (by rw [e]; exact hg)), hg]; grind
    · exact aw_in q (parts_nodup h) (mem_parts.mpr ⟨hk, hg, rfl⟩)
  · rw [if_neg hk]
    exact aw_out q (fun p hp e => hk (by rw [← e]; exact (mem_parts.mp hp).1))
end FW
end

/-! ## W4b -/
section
set_option Elab.async false
set_option linter.all false
set_option maxRecDepth 100000
set_option maxHeartbeats 4000000
namespace FW
open PySem PySem.Spec PyProof.Rows L2 FF
theorem DR.get {K : PySem.W.Frag} {H : Hp} {n : Nat} {st : Bool} {f : Nat → Rat} {kvs : List (Key × V)} (h : DR K H n st f kvs) {j : Nat} (hj : j < n) {z : V} (iz : Im K H z (numD 0)) : Im K H ((valV kvs (.inl (j : Int))).getD z) (numD (f j)) := by
  rcases h.vs j hj with ⟨e, e0⟩ | ⟨v, e, iv, _⟩
  · rw [e, e0]; exact iz
  · rw [e]; exact iv
theorem DR.isSome {K : PySem.W.Frag} {H : Hp} {n : Nat} {f : Nat → Rat} {kvs : List (Key × V)} (h : DR K H n true f kvs) {j : Nat} (hj : j < n) : (valV kvs (.inl (j : Int))).isSome = decide (f j ≠ 0) := by
  rcases h.vs j hj with ⟨e, e0⟩ | ⟨v, e, iv, hz⟩
  · rw [e, decide_eq_false (by simp [e0])]; rfl
  · rw [e, decide_eq_true (hz rfl)]; rfl
theorem DR.some {K : PySem.W.Frag} {H : Hp} {n : Nat} {f : Nat → Rat} {kvs : List (Key × V)} (h : DR K H n true f kvs) {j : Nat} (hj : j < n) (hz : f j ≠ 0) : ∃ v, valV kvs (.inl (j : Int)) = some v ∧ Im K H v (numD (f j)) := by
  rcases h.vs j hj with ⟨e, e0⟩ | ⟨v, e, iv, _⟩
  · exact absurd e0 hz
  · exact ⟨v, e, iv⟩
theorem srt_mem {n : Nat} {l : List Nat} (h : ∀ j ∈ l, j < n) {j : Nat} : j ∈ srt n l ↔ j ∈ l := by
  unfold srt
  rw [List.mem_filter, List.mem_range, decide_eq_true_eq]
  exact ⟨fun z => z.2, fun z => ⟨h j z, z⟩⟩
theorem srt_inc (n : Nat) (l : List Nat) : (srt n l).Pairwise (· < ·) := List.Pairwise.filter _ List.pairwise_lt_range
theorem srt_nodup (n : Nat) (l : List Nat) : (srt n l).Nodup := (srt_inc n l).imp fun h => Nat.ne_of_lt h
theorem srt_perm {n : Nat} {l : List Nat} (nd : l.Nodup) (h : ∀ j ∈ l, j < n) : (srt n l).Perm l := (List.perm_ext_iff_of_nodup (srt_nodup n l) nd).mpr fun j => srt_mem h
theorem sorted_srt {n : Nat} {l : List Nat} {ns : List Int} (nd : l.Nodup) (h : ∀ j ∈ l, j < n) (hp : ns.Perm (l.map fun j : Nat => (j : Int))) (hs : ns.Pairwise (· ≤ ·)) : ns = (srt n l).map fun j : Nat => (j : Int) := by
  refine List.Perm.eq_of_pairwise (le := (· ≤ ·)) (fun a b _ _ x y => by omega) hs ?_ (hp.trans ((srt_perm nd h).symm.map _))
  rw [List.pairwise_map]
  exact (srt_inc n l).imp fun h => by omega
theorem range_getD (l : List Nat) : (List.range l.length).map (fun k => l.getD k 0) = l := by
  apply List.ext_getElem?
  intro j
  rw [List.getElem?_map]
  by_cases hj : j < l.length
  · rw [range_get hj]
    simp [hj]
  · rw [List.getElem?_eq_none (by simp; omega), List.getElem?_eq_none (by omega)]
    rfl
theorem filt_range {α : Type} (l : List Nat) (p : Nat → Bool) (g : Nat → α) : ((List.range l.length).filter fun k => p (l.getD k 0)).map (fun k => g (l.getD k 0)) = (l.filter p).map g := by
  have e := range_getD l
  calc ((List.range l.length).filter fun k => p (l.getD k 0)).map (fun k => g (l.getD k 0)) = (((List.range l.length).map (fun k => l.getD k 0)).filter p).map g := by
        rw [List.filter_map, List.map_map]; rfl
    _ = (l.filter p).map g := by rw [e]
theorem parts_rows (l : List Nat) (f : Nat → Rat) : ((List.range l.length).filter fun k => decide (f (l.getD k 0) ≠ 0)).map (fun k => partD (l.getD k 0, f (l.getD k 0))) = (parts l f).map partD := by
  rw [filt_range l (fun j => decide (f j ≠ 0)) (fun j => partD (j, f j))]
  unfold parts
  rw [List.map_map]; rfl
theorem int_list {l : List Nat} : (l.map fun j : Nat => (j : Int)).map V.int = l.map fun j : Nat => V.int (j : Int) := by rw [List.map_map]; rfl
theorem int_at {l : List Nat} {i : Nat} {x : V} (e : (l.map fun j : Nat => V.int (j : Int))[i]? = some x) : ∃ j, l[i]? = some j ∧ x = .int (j : Nat) := by
  rw [List.getElem?_map] at e
  obtain ⟨j, h1, h2⟩ := Option.map_eq_some_iff.mp e
  exact ⟨j, h1, h2.symm⟩
theorem getD_of {l : List Nat} {i j : Nat} (e : l[i]? = some j) : l.getD i 0 = j := by rw [List.getD_eq_getElem?_getD, e]; rfl
theorem ref_at {ds : List Addr} {i : Nat} {d : Addr} (e : ds[i]? = some d) : atI (ds.map V.ref) ((i : Nat) : Int) = some (.ref d) := atI_nat (by rw [List.getElem?_map, e]; rfl)
end FW
end

/-! ## W4 -/
section
set_option Elab.async false
set_option linter.all false
set_option maxRecDepth 100000
set_option maxHeartbeats 4000000
namespace FW
open PySem PySem.Spec PyProof.Rows L2 FF
/-- all but S stands -/
def Kp (S : List Addr) (H H' : Hp) : Prop := ∀ b o, b ∉ S → H b = some o → H' b = some o
/-- a list or a dict that may change -/
def Mob (H : Hp) (b : Addr) : Prop := (∃ kvs, H b = some (.dK kvs)) ∨ ∃ xs, H b = some (.lst xs)
theorem Kp.refl {S : List Addr} {H : Hp} : Kp S H H := fun _ _ _ h => h
theorem Kp.trans {S : List Addr} {H H1 H2 : Hp} (a : Kp S H H1) (b : Kp S H1 H2) : Kp S H H2 := fun c o hc h => b c o hc (a c o hc h)
theorem Kp.up {S S' : List Addr} {H H1 : Hp} (a : Kp S H H1) (h : ∀ b ∈ S, b ∈ S') : Kp S' H H1 := fun c o hc e => a c o (fun z => hc (h c z)) e
theorem _root_.L2.Same.kp {S : List Addr} {H H' : Hp} (s : Same H H') : Kp S H H' := fun b o _ e => s b o e
theorem Kp.upd {S : List Addr} {H H1 : Hp} {a : Addr} {o : HO} (k : Kp S H H1) (h : a ∈ S) : Kp S H (upd H1 a o) := fun b o hb e => by
  rw [upd_ne (fun z => hb (by rw [z]; exact h))]; exact k b o hb e
theorem Kp.mut {S : List Addr} {H H1 : Hp} {a : Addr} {o : HO} (k : Kp S H H1) (h : H a = none) : Kp S H (L2.upd H1 a o) := fun b o hb e => by
  rw [upd_ne (fun z => by rw [z, h] at e; cases e)]; exact k b o hb e
theorem Kp.tup {S : List Addr} {H H' : Hp} (k : Kp S H H') (h : ∀ b ∈ S, Mob H b) : Tup H H' := by
  constructor
  · intro b xs e
    refine k b _ (fun hb => ?_) e
    rcases h b hb with ⟨_, z⟩ | ⟨_, z⟩ <;> rw [z] at e <;> cases e
  · intro b o u e
    refine k b _ (fun hb => ?_) e
    rcases h b hb with ⟨_, z⟩ | ⟨_, z⟩ <;> rw [z] at e <;> cases e
theorem Kp.tt {K : PySem.W.Frag} {S : List Addr} {H H' : Hp} (k : Kp S H H') (h : ∀ b ∈ S, Mob H b) {a : Addr} {xs : List V} (t : SqT K H a xs) : SqT K H' a xs := TT.mono (k.tup h) t
theorem mob_d {H : Hp} {a : Addr} {kvs : List (Key × V)} (h : H a = some (.dK kvs)) : ∀ b ∈ [a], Mob H b := fun b hb => by
  rw [List.mem_singleton.mp hb]; exact .inl ⟨_, h⟩
theorem imAll_atT {K : PySem.W.Frag} {H H' : Hp} {α : Type} {D : α → PyData} {xs : List V} {l : List α} (h : ImAll K H xs (l.map D)) (s : Tup H H') {i : Nat} {x : V} (e : xs[i]? = some x) : ∃ a, l[i]? = some a ∧ Im K H' x (D a) := by
  obtain ⟨d, ed, id⟩ := h.got e
  rw [List.getElem?_map] at ed
  obtain ⟨p, ep, rfl⟩ := Option.map_eq_some_iff.mp ed
  exact ⟨p, ep, id.mono s⟩
theorem take_ne {r : List Part} (nd : (r.map (·.1)).Nodup) {i : Nat} {p : Part} (e : r[i]? = some p) : ∀ q ∈ r.take i, q.1 ≠ p.1 := fun q hq ee => by
  obtain ⟨j, hj⟩ := List.getElem?_of_mem hq
  rw [List.getElem?_take] at hj
  split at hj
  · rename_i hlt
    have h1 : (r.map (·.1))[j]? = some q.1 := by rw [List.getElem?_map, hj]; rfl
    have h2 : (r.map (·.1))[i]? = some q.1 := by rw [List.getElem?_map, e, ee]; rfl
    have hj' := (List.getElem?_eq_some_iff.mp h1).1
    obtain ⟨b1, c1⟩ := List.getElem?_eq_some_iff.mp h1
    obtain ⟨b2, c2⟩ := List.getElem?_eq_some_iff.mp h2
    exact List.pairwise_iff_getElem.mp nd j i b1 b2 hlt (c1.trans c2.symm)
  · cases hj
section
variable {P : Program} {w : World} {K : PySem.W.Frag} {mg : Str → Option Value} {base : Heap}
/-- own = own - factor * row; the sizes of all that is met -/
def sp_take_away (K : PySem.W.Frag) : Sp := fun vs H Q _ => ∃ (a : Addr) (fv rv : V) (n : Nat) (f : Nat → Rat) (kvs : List (Key × V)) (q : Rat) (r : List Part), vs = [.ref a, fv, rv] ∧ H a = some (.dK kvs) ∧ DR K H n true f kvs ∧ n ≤ 12 ∧ Im K H fv (numD q) ∧ Im K H rv (rowD r) ∧
  (r.map (·.1)).Nodup ∧ (∀ p ∈ r, p.1 < n ∧ Sm (f p.1) ∧ Sm q ∧ Sm p.2 ∧ Sm (q * p.2) ∧ Sm (f p.1 - q * p.2)) ∧ ∀ H' kvs', Kp [a] H H' → H' a = some (.dK kvs') → DR K H' n true (aw q r f) kvs' → Q .non H'
abbrev s_take_away : Stmt := topS 34
theorem sc_take_away : FnScope ["own", "factor", "row", "j", "number", "left"] ["own", "factor", "row"] (defScope s_take_away) := ⟨rfl, rfl, rfl, by decide +kernel, rfl, by decide +kernel, by decide +kernel⟩
theorem fn_take_away (T : Tops K mg) : Fn P w K mg base CX0 4 "take_away" ["own", "factor", "row"] (sp_take_away K) := by
  have h_minus : Fn P w K mg base CX0 3 "minus" _ _ := (fn_minus T).mono (by decide)
  have h_times : Fn P w K mg base CX0 3 "times" _ _ := (fn_times T).mono (by decide)
  obtain ⟨aNOUGHT, mNOUGHT, sNOUGHT⟩ := T.v_NOUGHT
  refine T.d_take_away.fn sc_take_away (fun _ _ _ _ _ _ us hl => match us, hl with | [_, _, _], _ => rfl) (fun vs H Q E h => ?_) (fun f cdv A outer s H vs Q E hr h => ?_)
  · obtain ⟨a, fv, rv, n, f, kvs, q, r, rfl, _⟩ := h; rfl
  · obtain ⟨a, fv, rv, n, f, kvs, fq, r, rfl, ea, dr, h12, ifv, irv, nd, hs, q⟩ := h
    obtain ⟨b, xs, rfl, tb, ixs⟩ := row_inv irv
    have lx : xs.length = r.length := by rw [ixs.length, List.length_map]
    have mb := mob_d ea
    refine ⟨_, (pss_one (ps_for PassesOwn.never rfl (pi_tup (pv 2)) (pg_tup rfl (pgs_cons (pg_name (i := 3) sc_take_away.nd rfl (.inl rfl)) (pgs_cons (pg_name (i := 4) sc_take_away.nd rfl (.inl rfl)) pgs_nil)))
  (pss_cons (ps_set (i := 5) sc_take_away.nd rfl (.inl rfl) (pe_fn h_minus hr pass0 (pa_cons (pe_dget2 (hu_of hr) (pv 0) (pv 3) (pe_glob (v := .ref aNOUGHT) (by rfl) mNOUGHT rfl) ⟨rfl, rfl, rfl, rfl⟩) (pa_cons (pe_fn h_times hr pass0 (pa_cons (pv 1) (pa_cons (pv 4) pa_nil))) pa_nil))))
  (pss_cons (ps_expr (pe_dpop2 (pv 0) (pv 3) pe_non ⟨rfl, rfl, rfl, rfl⟩))
  (pss_one (ps_if (pt_cmpR (op_neDK hr.units) (pv 5) (pe_glob (v := .ref aNOUGHT) (by rfl) mNOUGHT rfl) (nomark _))
  (pss_one (ps_dput (hu_of hr) (pv 0) (pv 3) (pv 5) rfl))
  pss_nil)))))), ?_⟩
    repeat' (first
      | exact q
      | refine ⟨_, _, _, _, rfl, rfl, (by assumption), rfl, ?_⟩
      | refine ⟨_, _, _, _, true, rfl, .ty _, (by first | exact .base (.int _) | exact ty_tup (by assumption) | exact ty_lst (by assumption)), kit_ty (by decide +kernel), ?_⟩
      | refine ⟨_, _, _, _, false, rfl, .ty _, (by first | exact .base (.int _) | exact ty_tup (by assumption) | exact ty_lst (by assumption)), kit_ty (by decide +kernel), ?_⟩
      | refine ⟨_, _, rfl, .inr (by assumption), ?_⟩
      | refine ⟨_, _, rfl, .inl (by assumption), ?_⟩
      | refine ⟨_, _, rfl, (by assumption), rfl, ?_⟩
      | refine ⟨_, rfl, ?_⟩
      | refine ⟨_, _, rfl, rfl, ?_⟩
      | refine ⟨Nat.le_of_ble_eq_true rfl, fun p hp => ?_⟩
      | refine ⟨_, _, rfl, ?_⟩
      | refine ⟨rfl, ?_⟩
      | refine ⟨mul_ok4 (by assumption) (by assumption), ?_⟩
      | fail)
    refine ⟨⟨_, tb⟩, for_it (walk_tup (xs := xs)) (fun i σ H' => ∃ u v x, σ = [some (.ref a), some fv, some (.ref b), u, v, x] ∧ Kp [a] H H' ∧ ∃ kvs', H' a = some (.dK kvs') ∧ DR K H' n true (aw fq (r.take i) f) kvs')
      ⟨none, none, none, rfl, .refl, kvs, ea, dr⟩ (fun i σ H' _ ⟨_, _, _, _, k, _⟩ => k.tt mb tb) ?_ ?_⟩
    · rintro i x σ H1 H2 hi ⟨u, v, l, rfl, k1, kvs1, ea1, dr1⟩ ⟨rfl, ex⟩
      have t1 := k1.tup mb
      obtain ⟨p, ep, ip⟩ := imAll_atT ixs t1 ex
      obtain ⟨hj, s1, s2, s3, s4, s5⟩ := hs p (List.mem_of_getElem? ep)
      obtain ⟨t, z, rfl, tt, iz⟩ := part_inv ip
      have ef : aw fq (r.take i) f p.1 = f p.1 := aw_out fq (take_ne nd ep)
      have io : Im K H2 ((valV kvs1 (.inl (p.1 : Int))).getD (.ref aNOUGHT)) (numD (f p.1)) := by
        rcases dr1.vs p.1 hj with ⟨e, e0⟩ | ⟨v, e, iv, _⟩
        · rw [e, ← ef, e0]; exact im_nought sNOUGHT H2
        · rw [e, ← ef]; exact iv
      refine ⟨_, _, rfl, tt, rfl, _, _, rfl, _, _, rfl, rfl, ?_⟩
      refine ⟨_, rfl, a, rfl, .inl ⟨kvs1, .inl ea1⟩, _, rfl, _, .inl ⟨kvs1, .inl (p.1 : Int), .inl ea1, rfl, rfl⟩, ?_⟩
      refine ⟨_, rfl, _, rfl, _, _, fq, p.2, rfl, ifv.mono t1, iz, s2, s3, True.intro, s4, fun v2 H3 e3 i3 => ?_⟩
      refine ⟨_, _, f p.1, fq * p.2, rfl, io.mono e3.tup, i3, s1, s4, True.intro, s5, fun v4 H4 e4 i4 => ?_⟩
      have ea4 := e4 _ _ (e3 _ _ ea1)
      have dr4 := dr1.mono (e3.trans e4).tup
      have k4 : Kp [a] H H4 := k1.trans (e3.trans e4).kp
      have fin : ∀ (H5 : Hp) (kvs5 : List (Key × V)), Kp [a] H H5 → Tup H4 H5 → H5 a = some (.dK kvs5) → DR K H5 n true (fun k => if k = p.1 then 0 else aw fq (r.take i) f k) kvs5 →
          tIfS (tTest (tOp (rNeD K) (tVar 5) (tC (.ref aNOUGHT)))) (sDPut (tVar 0) (tVar 3) (tVar 5)) tNext
            { nx := fun σ H' => ∃ u v x, σ = [some (.ref a), some fv, some (.ref b), u, v, x] ∧ Kp [a] H H' ∧ ∃ kvs', H' a = some (.dK kvs') ∧ DR K H' n true (aw fq (r.take (i + 1)) f) kvs', rt := Q, bk := fun _ H' => Q .non H', ct := fun σ H' => ∃ u v x, σ = [some (.ref a), some fv, some (.ref b), u, v, x] ∧ Kp [a] H H' ∧ ∃ kvs', H' a = some (.dK kvs') ∧ DR K H' n true (aw fq (r.take (i + 1)) f) kvs' }
            [some (.ref a), some fv, some (.ref b), some (.int (p.1 : Nat)), some z, some v4] H5 := fun H5 kvs5 k5 t5 ea5 dr5 => by
        have i5 := i4.mono t5
        have eaw : ∀ k, aw fq (r.take (i + 1)) f k = if k = p.1 then f p.1 - fq * p.2 else aw fq (r.take i) f k := fun k => by
          rw [List.take_succ, ep]
          show aw fq (r.take i ++ [p]) f k = _
          rw [aw_snoc, ef]
        refine ⟨_, rfl, _, _, i5.dp, (im_nought sNOUGHT H5).dp, (shp_num _).shaped (by decide), (shp_num _).shaped (by decide), _, rfl, ?_⟩
        rw [eqv_num]
        by_cases hz : f p.1 - fq * p.2 = 0
        · rw [decide_eq_true hz]
          refine ⟨_, _, _, rfl, k5, kvs5, ea5, dr5.congr fun k hk => ?_⟩
          rw [eaw, hz]
        · rw [decide_eq_false hz]
          refine ⟨_, rfl, _, rfl, _, rfl, a, _, rfl, DPut.k (k := .inl (p.1 : Int)) ea5 (small1000 (by have := dr5.len; omega)), _, _, _, rfl, k5.upd (by simp), _, upd_same, ?_⟩
          have tm : Tup H5 (upd H5 a (.dK (putK kvs5 (.inl (p.1 : Int)) v4))) := .dk ea5
          refine ((dr5.put hj i5 (fun _ => hz)).mono tm).congr fun k hk => ?_
          rw [eaw]
          by_cases e : k = p.1 <;> simp [e]
      refine ⟨_, rfl, a, rfl, .inl ⟨kvs1, .inl ea4⟩, _, rfl, kvs1, .inl (p.1 : Int), ea4, rfl, fun v e => ?_, fun e => ?_⟩
      · exact fin _ _ (k4.upd (by simp)) (.dk ea4) upd_same (dr4.drop.mono (.dk ea4))
      · refine fin _ _ k4 .refl ea4 (dr4.congr fun k hk => ?_)
        by_cases ek : k = p.1
        · subst ek
          rcases dr4.vs p.1 hj with ⟨_, e0⟩ | ⟨v, e', _⟩
          · simp [e0]
          · rw [e] at e'; cases e'
        · simp [ek]
    · rintro σ H1 ⟨u, v, l, rfl, k1, kvs1, ea1, dr1⟩
      rw [List.take_of_length_le (by omega)] at dr1
      exact q _ _ k1 ea1 dr1
/-! ### NoPivot(v) -/
theorem sc_np : FnScope ["self", "place"] ["self", "place"] (defScope (inClass (topS 6) 0)) := ⟨rfl, rfl, rfl, by decide +kernel, rfl, by decide +kernel, by decide +kernel⟩
def sp_np (K : PySem.W.Frag) (C : Addr) : Sp := fun vs H Q _ => ∃ (a : Addr) (v : V), vs = [.ref a, v] ∧ H a = some (exo a C none) ∧ ∀ d, H d = none → d ≠ a → Q .non (L2.upd (L2.upd H d (exd d [("place", v)])) a (exo a C (some d)))
theorem ok_np {C F fI : Addr} {fd : FuncData} (N : NoPv K mg C F fI fd) : FnOk P w K mg base CX0 1 fI fd ["self", "place"] (sp_np K C) := by
  refine N.fn.ok sc_np (fun vs H Q E h => ?_) (fun cdv A outer s H vs Q E hr h => ?_)
  · obtain ⟨a, v, rfl, _⟩ := h; rfl
  · obtain ⟨a, v, rfl, ea, q⟩ := h
    refine ⟨_, pss_cons (ps_expr (pe_owninit (by rfl) N.gF N.ga N.rd N.vF (pa_cons (pv 0) (pa_cons pe_str pa_nil)))) (pss_one (ps_ost (pv 0) (pv 1))), ?_⟩
    refine ⟨_, rfl, a, C, _, rfl, Nat.le_of_ble_eq_true rfl, N.ox, ea, _, rfl, _, rfl, a, C, rfl, N.ox, N.noP, .inl ⟨ea, fun d hd hne => q d hd hne⟩⟩
theorem Df.fnX {x : Str} {st : Stmt} {N ps : List Str} {k : Nat} {sp : Sp} (D : Df K mg x st) (S : FnScope N ps (defScope st))
    (hb : ∀ (kV doc pm : Value) (an : Option Addr) (cdv ct : Value) (us : List Value), us.length = ps.length → bindArgs (PySem.W.fnOf x x (defArgs st) (defBody st) (defScope st) .none kV doc pm an cdv ct) ⟨us, []⟩ = pure (ps.zip us))
    (len : ∀ vs H Q E, sp vs H Q E → vs.length = ps.length)
    (hbody : ∀ (f : Addr) (cdv : Value) (A : Around) (outer : List Env) (s : Shared) (H : Hp) (vs : List V) (Q : VK) (E : XK), Room k (A.deeper (envOfC x (defScope st) s.heap.objs.size f cdv)) → sp vs H Q E →
      ∃ t, PSs (cxOf (L2.CX P w) P w K mg base N x (defScope st) f cdv A outer s H E) (defBody st) t ∧ t { nx := fun _ H' => Q .non H', rt := Q } (L2.start N vs) H) : Fn P w K mg base (L2.CX P w) (k + 1) x ps sp := by
  obtain ⟨f, fd, F, g⟩ := D.ex
  exact ⟨f, fd, F.okX S len (hbody f), g, F.kp, F.binds hb⟩
/-! ### step -/
/-- the rows that are left -/
structure LeftB (st : Bool) (K : PySem.W.Frag) (H : Hp) (n : Nat) (M : Mat) (ds : List Addr) : Prop where
  len : ds.length = n
  nd : ds.Nodup
  at' : ∀ (i : Nat) (d : Addr), ds[i]? = some d → ∃ kvs, H d = some (.dK kvs) ∧ DR K H n st (M i) kvs
abbrev Left := LeftB true
structure SmStep (M : Mat) (v : Nat) (later : List Nat) : Prop where
  m : ∀ i ∈ v :: later, ∀ j ∈ v :: later, Sm (M i j)
  l : ∀ i ∈ later, Sm (M i v / M v v)
  p : ∀ i ∈ later, ∀ j ∈ later, Sm (M i v / M v v * M v j)
  d : ∀ i ∈ later, ∀ j ∈ later, Sm (M i j - M i v / M v v * M v j)
/-- the rows behind the places done -/
def stkD (M : Mat) (v : Nat) (later done : List Nat) : Mat := fun i j => if i ∈ done ∧ j ∈ later then M i j - M i v / M v v * M v j else M i j
theorem LeftB.upd {st : Bool} {K : PySem.W.Frag} {H H' : Hp} {n : Nat} {M M' : Mat} {ds : List Addr} {i : Nat} {d : Addr} {kvs : List (Key × V)} (h : LeftB st K H n M ds) (hd : ds[i]? = some d) (k : Kp [d] H H') (e : H' d = some (.dK kvs)) (dr : DR K H' n st (M' i) kvs) (hm : ∀ i', i' ≠ i → ∀ j < n, M i' j = M' i' j) : LeftB st K H' n M' ds := by
  obtain ⟨k0, e0, _⟩ := h.at' i d hd
  have tm := k.tup (mob_d e0)
  refine ⟨h.len, h.nd, fun i' d' hd' => ?_⟩
  by_cases hi : i' = i
  · subst hi
    rw [hd] at hd'
    cases hd'
    exact ⟨kvs, e, dr⟩
  · obtain ⟨k', e', dr'⟩ := h.at' i' d' hd'
    have hne : d' ∉ [d] := fun z => by
      have z := List.mem_singleton.mp z
      subst z
      obtain ⟨b1, c1⟩ := List.getElem?_eq_some_iff.mp hd
      obtain ⟨b2, c2⟩ := List.getElem?_eq_some_iff.mp hd'
      rcases Nat.lt_or_gt_of_ne hi with z | z
      · exact List.pairwise_iff_getElem.mp h.nd i' i b2 b1 z (c2.trans c1.symm)
      · exact List.pairwise_iff_getElem.mp h.nd i i' b1 b2 z (c1.trans c2.symm)
    exact ⟨k', k d' _ hne e', (dr'.mono tm).congr (hm i' hi)⟩
theorem LeftB.mono {st : Bool} {K : PySem.W.Frag} {H H' : Hp} {n : Nat} {M : Mat} {ds : List Addr} (h : LeftB st K H n M ds) (s : Same H H') : LeftB st K H' n M ds := ⟨h.len, h.nd, fun i d hd => by
  obtain ⟨k, e, dr⟩ := h.at' i d hd
  exact ⟨k, s _ _ e, dr.mono s.tup⟩⟩
theorem LeftB.congr {st : Bool} {K : PySem.W.Frag} {H : Hp} {n : Nat} {M M' : Mat} {ds : List Addr} (h : LeftB st K H n M ds) (e : ∀ i j, j < n → M i j = M' i j) : LeftB st K H n M' ds := ⟨h.len, h.nd, fun i d hd => by
  obtain ⟨k, ek, dr⟩ := h.at' i d hd
  exact ⟨k, ek, dr.congr fun j hj => e i j hj⟩⟩
theorem LeftB.mob {st : Bool} {K : PySem.W.Frag} {H : Hp} {n : Nat} {M : Mat} {ds : List Addr} (h : LeftB st K H n M ds) : ∀ b ∈ ds, Mob H b := fun b hb => by
  obtain ⟨i, hi⟩ := List.getElem?_of_mem hb
  obtain ⟨k, e, _⟩ := h.at' i b hi
  exact .inl ⟨k, e⟩
theorem parts_len (l : List Nat) (f : Nat → Rat) : (parts l f).length ≤ l.length := by
  unfold parts
  rw [List.length_map]
  exact List.length_filter_le _ _
theorem parts_snoc (l : List Nat) (i : Nat) (f : Nat → Rat) : parts (l ++ [i]) f = parts l f ++ (if f i ≠ 0 then [(i, f i)] else []) := by
  unfold parts
  rw [List.filter_append, List.map_append]
  by_cases h : f i = 0 <;> simp [h]
def sp_step (C : Addr) (K : PySem.W.Frag) : Sp := fun vs H Q E => ∃ (L a : Addr) (v n : Nat) (later : List Nat) (M : Mat) (ds : List Addr), vs = [.ref L, .int v, .ref a] ∧ H L = some (.lst (ds.map V.ref)) ∧ SqL K H a (later.map fun j => V.int (j : Nat)) ∧ Left K H n M ds ∧
  n ≤ 12 ∧ v < n ∧ (∀ j ∈ later, j < n) ∧ (v :: later).Nodup ∧ (M v v ≠ 0 → SmStep M v later) ∧
  (M v v = 0 → ∀ d H', Same H H' → E (.ref C) d H') ∧
  (M v v ≠ 0 → ∀ u H', Kp ds H H' → Left K H' n (stk M v later) ds → Im K H' u (w1D (w1 n M v later)) → Q u H')
abbrev s_step : Stmt := topS 35
theorem sc_step : FnScope ["left", "v", "later", "pivot", "row", "j", "column", "i", "factor"] ["left", "v", "later"] (defScope s_step) := ⟨rfl, rfl, rfl, by decide +kernel, rfl, by decide +kernel, by decide +kernel⟩
theorem fn_step {C F fI : Addr} {fd : FuncData} (T : Tops K mg) (N : NoPv K mg C F fI fd) : Fn P w K mg base (L2.CX P w) 6 "step" ["left", "v", "later"] (sp_step C K) := by
  have h_take_away : Fn P w K mg base CX0 5 "take_away" _ _ := (fn_take_away T).mono (by decide)
  have h_over : Fn P w K mg base CX0 5 "over" _ _ := (fn_over T).mono (by decide)
  have bnp := N.fn.binds (ps := ["self", "place"]) fun _ _ _ _ _ _ us hl => match us, hl with | [_, _], _ => rfl
  obtain ⟨aNOUGHT, mNOUGHT, sNOUGHT⟩ := T.v_NOUGHT
  refine T.d_step.fnX sc_step (fun _ _ _ _ _ _ us hl => match us, hl with | [_, _, _], _ => rfl) (fun vs H Q E h => ?_) (fun f cdv A outer s H vs Q E hr h => ?_)
  · obtain ⟨L, a, v, n, later, M, ds, rfl, _⟩ := h; rfl
  · obtain ⟨L, a, v, n, later, M, ds, rfl, eL, la, hL, h12, hv, hlt, nd, hsm, hE, q⟩ := h
    have ndl := (List.nodup_cons.mp nd).2
    have hvl := (List.nodup_cons.mp nd).1
    obtain ⟨dv, edv⟩ : ∃ dv, ds[v]? = some dv := ⟨ds[v]'(by rw [hL.len]; exact hv), List.getElem?_eq_getElem _⟩
    obtain ⟨kv, ekv, drv⟩ := hL.at' v dv edv
    have ipv := drv.get hv (im_nought sNOUGHT H)
    refine ⟨_, (pss_cons (ps_set (i := 3) sc_step.nd rfl (.inl rfl) (pe_dget2 (hu_of hr) (pe_ix ix_listK (pv 0) (pv 1) (fun _ _ => rfl)) (pv 1) (pe_glob (v := .ref aNOUGHT) (by rfl) mNOUGHT rfl) ⟨rfl, rfl, rfl, rfl⟩))
  (pss_cons (ps_if (pt_cmpR (op_eqDK hr.units) (pv 3) (pe_glob (v := .ref aNOUGHT) (by rfl) mNOUGHT rfl) (nomark _))
  (pss_one (ps_raise rfl (takes_of rfl rfl rfl rfl) (pmk_oex N.ox N.iC N.tI (ok_np N) (hr.mono (by decide)) bnp .nil pass0 (by rfl) N.gC (pa_cons (pv 1) pa_nil))))
  pss_nil)
  (PSs.nox (pss_cons (ps_set (i := 4) sc_step.nd rfl (.inl rfl) (pe_callTy call_tuple_ofK (by rfl) T.B.tuple bo_tuple (pa_cons (pe_lc (own := [("j", 5)]) (g := gName 5) rfl sc_step.nd (pi_list (pe_callB cr_sortedK (by rfl) T.B.sorted bo_sorted (pa_cons (pv 2) pa_nil))) (blkOk_by (N := ["left", "v", "later", "pivot", "row", "j", "column", "i", "factor"]) (sc := defScope s_step) (by decide +kernel)) (fun _ _ _ _ _ => (pg_name (i := 5) sc_step.nd rfl (.inl rfl))) (fun _ _ _ _ _ => pts_one (pt_cmp (pc_din (hu_of hr) (pv 5) (pe_ix ix_listK (pv 0) (pv 1) (fun _ _ => rfl))))) (fun _ _ _ _ _ => (pe_tup (pa_cons (pv 5) (pa_cons (pe_dget (hu_of hr) (pe_ix ix_listK (pv 0) (pv 1) (fun _ _ => rfl)) (pv 5) (fun _ _ => rfl)) pa_nil))))) pa_nil)))
  (pss_cons (ps_set (i := 6) sc_step.nd rfl (.inl rfl) (pe_lst pa_nil))
  (pss_cons (ps_for PassesOwn.never rfl (pi_list (pe_callB cr_sortedK (by rfl) T.B.sorted bo_sorted (pa_cons (pv 2) pa_nil))) (pg_name (i := 7) sc_step.nd rfl (.inl rfl))
  (pss_one (ps_if (pt_cmp (pc_din (hu_of hr) (pv 1) (pe_ix ix_listK (pv 0) (pv 7) (fun _ _ => rfl))))
  (pss_cons (ps_set (i := 8) sc_step.nd rfl (.inl rfl) (pe_fn h_over hr pass0 (pa_cons (pe_dget (hu_of hr) (pe_ix ix_listK (pv 0) (pv 7) (fun _ _ => rfl)) (pv 1) (fun _ _ => rfl)) (pa_cons (pv 3) pa_nil))))
  (pss_cons (ps_expr (pe_bm PySem.F.plainAttrs_list PySem.F.slot_list_append PySem.F.type_list_append mt_append (pv 6) (pa_cons (pe_tup (pa_cons (pv 7) (pa_cons (pv 8) pa_nil))) pa_nil)))
  (pss_one (ps_expr (pe_fn h_take_away hr pass0 (pa_cons (pe_ix ix_listK (pv 0) (pv 7) (fun _ _ => rfl)) (pa_cons (pv 8) (pa_cons (pv 4) pa_nil))))))))
  pss_nil)))
  (pss_one (ps_ret (pe_tup (pa_cons (pv 1) (pa_cons (pv 3) (pa_cons (pv 4) (pa_cons (pe_callTy call_tuple_ofK (by rfl) T.B.tuple bo_tuple (pa_cons (pv 6) pa_nil)) pa_nil))))))))))))), ?_⟩
    refine ⟨_, rfl, _, rfl, L, _, _, _, rfl, rfl, SqL.of eL, ref_at edv, dv, rfl, .inl ⟨kv, .inl ekv⟩, _, rfl, _, .inl ⟨kv, .inl (v : Int), .inl ekv, rfl, rfl⟩, ?_⟩
    refine ⟨_, rfl, _, _, ipv.dp, (im_nought sNOUGHT H).dp, (shp_num _).shaped (by decide), (shp_num _).shaped (by decide), _, rfl, ?_⟩
    rw [eqv_num]
    by_cases hz : M v v = 0
    · rw [decide_eq_true hz]
      refine ⟨_, rfl, Nat.le_trans (Nat.le_of_ble_eq_true rfl : _ ≤ 60) (by decide), fun e he => ⟨e, _, rfl, upd_same, fun d hd hne => ⟨rfl, d, [("place", V.int (v : Nat))], upd_same, ?_, ?_, hE hz _ _ ?_⟩⟩⟩
      · rw [upd_ne hne, upd_same]
      · rw [upd_ne hne] at hd; exact hd
      · intro b o hb
        have hbe : b ≠ e := ne_of_none hb he
        have hbd : b ≠ d := fun z => by rw [upd_ne hne, ← z, hb] at hd; cases hd
        rw [upd_ne hbd, del_ne hbe, upd_ne hbe, upd_ne hbd, upd_ne hbe]
        exact hb
    rw [decide_eq_false hz]
    have sm := hsm hz
    have q := q hz
    have hso : ∀ {j}, j ∈ srt n later → j ∈ later := fun h => (srt_mem hlt).mp h
    have lso : (srt n later).length ≤ 12 := by
      have := nodup_le (srt_nodup n later) (fun w hw => hlt w (hso hw)); omega
    -- row
    refine ⟨_, rfl, a, later.map (fun j : Nat => (j : Int)), rfl, (by rw [int_list]; exact la), (by rw [List.length_map]; have := nodup_le ndl hlt; omega), fun ns p perm inc hp => ?_⟩
    have ens := sorted_srt ndl hlt perm inc
    subst ens
    rw [int_list]
    have t1 := same_new (o := .lst ((srt n later).map fun j : Nat => V.int (j : Int))) hp
    refine ⟨p, rfl, ⟨_, SqL.of upd_same⟩, fun D hD => lc_f (walk_list (xs := (srt n later).map fun j : Nat => V.int (j : Int))) (fun k => decide (M v ((srt n later).getD k 0) ≠ 0)) (PIm K fun k => partD ((srt n later).getD k 0, M v ((srt n later).getD k 0))) PIm.m1 PIm.m2 hD (by rw [List.length_map]; omega) (fun H' s => s.seq (SqL.of upd_same)) (fun k x H1 H2 Qy Qn hk s2 yy ky kn => ?_) (fun H1 hacc => ?_)⟩
    · obtain ⟨rfl, ex⟩ := yy
      obtain ⟨j, ej, rfl⟩ := int_at ex
      have hj := hlt j (hso (List.mem_of_getElem? ej))
      have s3 := t1.trans s2
      rw [getD_of ej] at ky kn
      have dr3 := drv.mono s3.tup
      refine ⟨rfl, _, rfl, _, rfl, _, rfl, L, _, _, _, rfl, rfl, SqL.of (s3 _ _ eL), ref_at edv, dv, _, rfl, .inl ⟨kv, .inl (j : Int), .inl (s3 _ _ ekv), rfl, rfl⟩, _, rfl, ?_⟩
      rw [dr3.isSome hj]
      by_cases hm : M v j = 0
      · rw [decide_eq_false (by simp [hm])]
        exact kn (by simp [hm]) _ (Same.refl _)
      · rw [decide_eq_true hm]
        obtain ⟨x, ex, ix⟩ := dr3.some hj hm
        refine ⟨_, rfl, _, rfl, _, rfl, L, _, _, _, rfl, rfl, SqL.of (s3 _ _ eL), ref_at edv, _, rfl, dv, x, rfl, .inl ⟨kv, .inl (j : Int), .inl (s3 _ _ ekv), rfl, ex.symm⟩, Nat.le_of_ble_eq_true rfl, fun p2 hp2 => ky (by simp [hm]) _ _ (same_new hp2) ?_⟩
        show Im K _ (.ref p2) (partD ((srt n later).getD k 0, M v ((srt n later).getD k 0)))
        rw [getD_of ej]
        exact .tup (.of upd_same) (.cons (.int _) (.cons (ix.mono (same_new hp2).tup) .nil))
    · obtain ⟨ys, s2, eD, iys⟩ := hacc.im
      rw [List.length_map, parts_rows] at iys
      refine ⟨_, _, rfl, .inl ⟨SqL.of eD, fun l hl => ?_⟩⟩
      have irow : Im K (L2.upd H1 l (.tup ys)) (.ref l) (rowD (parts (srt n later) (M v))) := .tup (.of upd_same) (iys.mono (same_new hl).tup)
      have s3 : Same H (L2.upd H1 l (.tup ys)) := t1.trans (s2.trans (same_new hl))
      generalize L2.upd H1 l (.tup ys) = H3 at irow s3 ⊢
      repeat' (first
      | exact q
      | refine ⟨_, _, _, _, rfl, rfl, (by assumption), rfl, ?_⟩
      | refine ⟨_, _, _, _, true, rfl, .ty _, (by first | exact .base (.int _) | exact ty_tup (by assumption) | exact ty_lst (by assumption)), kit_ty (by decide +kernel), ?_⟩
      | refine ⟨_, _, _, _, false, rfl, .ty _, (by first | exact .base (.int _) | exact ty_tup (by assumption) | exact ty_lst (by assumption)), kit_ty (by decide +kernel), ?_⟩
      | refine ⟨_, _, rfl, .inr (by assumption), ?_⟩
      | refine ⟨_, _, rfl, .inl (by assumption), ?_⟩
      | refine ⟨_, _, rfl, (by assumption), rfl, ?_⟩
      | refine ⟨_, rfl, ?_⟩
      | refine ⟨_, _, rfl, rfl, ?_⟩
      | refine ⟨Nat.le_of_ble_eq_true rfl, fun p hp => ?_⟩
      | refine ⟨_, _, rfl, ?_⟩
      | refine ⟨rfl, ?_⟩
      | refine ⟨mul_ok4 (by assumption) (by assumption), ?_⟩
      | fail)
      revert p
      intro Cc hCc
      have hCn : H Cc = none := s3.free hCc
      have s4 := s3.trans (same_new (o := .lst []) hCc)
      have irow4 := irow.mono (same_new (o := .lst []) hCc).tup
      have eC4 : (L2.upd H3 Cc (.lst [])) Cc = some (.lst []) := upd_same
      generalize L2.upd H3 Cc (.lst []) = H4 at s4 irow4 eC4 ⊢
      refine ⟨a, later.map (fun j : Nat => (j : Int)), rfl, (by rw [int_list]; exact s4.seq la), (by rw [List.length_map]; have := nodup_le ndl hlt; omega), fun ns p5 perm5 inc5 hp5 => ?_⟩
      have ens5 := sorted_srt ndl hlt perm5 inc5
      subst ens5
      rw [int_list]
      have t5 := same_new (o := .lst ((srt n later).map fun j : Nat => V.int (j : Int))) hp5
      have s5 := s4.trans t5
      have irow5 := irow4.mono t5.tup
      have eC5 := t5 _ _ eC4
      have e5 : (L2.upd H4 p5 (.lst ((srt n later).map fun j : Nat => V.int (j : Int)))) p5 = some (.lst ((srt n later).map fun j : Nat => V.int (j : Int))) := upd_same
      generalize L2.upd H4 p5 (.lst ((srt n later).map fun j : Nat => V.int (j : Int))) = H5 at s5 irow5 eC5 e5 ⊢
      have hL5 := hL.mono s5
      have mob5 : ∀ b ∈ Cc :: ds, Mob H5 b := fun b hb => by
        rcases List.mem_cons.mp hb with rfl | hb
        · exact .inr ⟨_, eC5⟩
        · exact hL5.mob b hb
      have Cds : Cc ∉ ds := fun hm => by
        obtain ⟨i, hi⟩ := List.getElem?_of_mem hm
        obtain ⟨k, e, _⟩ := hL.at' i Cc hi
        rw [hCn] at e; cases e
      have notds : ∀ {b : Addr} {xs : List V}, H5 b = some (.lst xs) → b ∉ ds := fun {b xs} e hm => by
        obtain ⟨i, hi⟩ := List.getElem?_of_mem hm
        obtain ⟨k, e', _⟩ := hL5.at' i b hi
        rw [e'] at e; cases e
      have LC : L ≠ Cc := fun z => by rw [z, hCn] at eL; cases eL
      have pC : p5 ≠ Cc := fun z => by rw [← z, hp5] at eC4; cases eC4
      refine ⟨p5, rfl, ⟨_, SqL.of e5⟩, for_it (walk_list (xs := (srt n later).map fun j : Nat => V.int (j : Int))) (fun k σ H' => ∃ x7 x8, σ = [some (.ref L), some (.int v), some (.ref a), some ((valV kv (.inl (v : Int))).getD (.ref aNOUGHT)), some (.ref l), none, some (.ref Cc), x7, x8] ∧ Kp (Cc :: ds) H5 H' ∧
        Left K H' n (stkD M v later ((srt n later).take k)) ds ∧ ∃ ys, H' Cc = some (.lst ys) ∧ ImAll K H' ys ((parts ((srt n later).take k) (fun i => M i v / M v v)).map partD)) ?_ (fun k σ H' _ ⟨_, _, _, kp, _⟩ => SqL.of (kp p5 _ (by simp only [List.mem_cons, not_or]; exact ⟨pC, notds e5⟩) e5)) ?_ ?_⟩
      · exact ⟨none, none, rfl, .refl, hL5.congr fun i j _ => by simp [stkD], [], eC5, .nil⟩
      · rintro k x σ H6 H7 hk ⟨x7, x8, rfl, kp, hL6, ys6, eC6, iys6⟩ ⟨rfl, ex⟩
        obtain ⟨i, ei, rfl⟩ := int_at ex
        have hil := hso (List.mem_of_getElem? ei)
        have hin := hlt i hil
        have hid : i ∉ (srt n later).take k := fun hm => by
          obtain ⟨j, hj⟩ := List.getElem?_of_mem hm
          rw [List.getElem?_take] at hj
          split at hj
          · rename_i hjk
            obtain ⟨b1, c1⟩ := List.getElem?_eq_some_iff.mp hj
            obtain ⟨b2, c2⟩ := List.getElem?_eq_some_iff.mp ei
            exact List.pairwise_iff_getElem.mp (srt_nodup n later) j k b1 b2 hjk (c1.trans c2.symm)
          · cases hj
        have tk : (srt n later).take (k + 1) = (srt n later).take k ++ [i] := by rw [List.take_succ, ei]; rfl
        obtain ⟨di, edi⟩ : ∃ d, ds[i]? = some d := ⟨ds[i]'(by rw [hL.len]; exact hin), List.getElem?_eq_getElem _⟩
        obtain ⟨kvi, eki, dri⟩ := hL6.at' i di edi
        have dri : DR K H7 n true (M i) kvi := dri.congr fun j hj => by simp [stkD, hid]
        have tm := kp.tup mob5
        have eL7 : H7 L = some (.lst (ds.map V.ref)) := kp L _ (by simp only [List.mem_cons, not_or]; exact ⟨LC, notds (s5 _ _ eL)⟩) (s5 _ _ eL)
        have ipv7 := (ipv.mono s5.tup).mono tm
        have irow7 := irow5.mono tm
        refine ⟨_, rfl, _, rfl, _, rfl, L, _, _, _, rfl, rfl, SqL.of eL7, ref_at edi, di, _, rfl, .inl ⟨kvi, .inl (v : Int), .inl eki, rfl, rfl⟩, _, rfl, ?_⟩
        rw [dri.isSome hv]
        by_cases hm : M i v = 0
        · rw [decide_eq_false (by simp [hm])]
          refine ⟨_, _, rfl, kp, hL6.congr fun i' j hj => ?_, ys6, eC6, ?_⟩
          · unfold stkD
            rw [tk]
            by_cases hi' : i' = i
            · subst hi'
              simp only [hid, false_and, if_false, List.mem_append, List.mem_singleton, or_true, true_and, hm]
              by_cases hj' : j ∈ later
              · simp only [hj', if_true]; grind
              · simp [hj']
            · simp [hi']
          · rw [tk, parts_snoc, if_neg (by simp [hm, Rat.div_def]), List.append_nil]
            exact iys6
        · rw [decide_eq_true hm]
          obtain ⟨x, exv, ix⟩ := dri.some hv hm
          have hf : M i v / M v v ≠ 0 := fun z => hm (by
            have : M i v = M i v / M v v * M v v := by grind
            rw [this, z]; grind)
          have hvv := sm.m v List.mem_cons_self v List.mem_cons_self
          refine ⟨_, rfl, _, rfl, L, _, _, _, rfl, rfl, SqL.of eL7, ref_at edi, _, rfl, di, x, rfl, .inl ⟨kvi, .inl (v : Int), .inl eki, rfl, exv.symm⟩, _, rfl, _, _, M i v, M v v, rfl, ix, ipv7, sm.m i (List.mem_cons_of_mem _ hil) v List.mem_cons_self, hvv, hz, sm.l i hil, fun fv H8 e8 i8 => ?_⟩
          refine ⟨_, rfl, .inl ⟨rfl, _, SqL.of (e8 _ _ eC6)⟩, _, rfl, _, rfl, Nat.le_of_ble_eq_true rfl, fun p9 hp9 => ?_⟩
          have t9 := same_new (o := .tup [.int (i : Nat), fv]) hp9
          have e9 := e8.trans t9
          have eC9 := e9 _ _ eC6
          have ly : ys6.length ≤ 12 := by
            rw [iys6.length, List.length_map]
            have := parts_len ((srt n later).take k) (fun i => M i v / M v v)
            have : ((srt n later).take k).length ≤ (srt n later).length := by rw [List.length_take]; omega
            omega
          refine ⟨_, _, _, rfl, rfl, eC9, small1000 (by omega), ?_⟩
          have ipart : Im K (L2.upd H8 p9 (.tup [.int (i : Nat), fv])) (.ref p9) (partD (i, M i v / M v v)) := .tup (.of upd_same) (.cons (.int _) (.cons (i8.mono t9.tup) .nil))
          have i89 := i8.mono t9.tup
          have iys9 := iys6.mono e9.tup
          have hdiC : di ≠ Cc := fun z => Cds (by rw [← z]; exact List.mem_of_getElem? edi)
          have eki9 := e9 _ _ eki
          have dri9 := dri.mono e9.tup
          have irow9 := irow7.mono e9.tup
          have hL9 := hL6.mono e9
          have eL9 := e9 _ _ eL7
          have kp9 : Kp (Cc :: ds) H5 (L2.upd H8 p9 (.tup [.int (i : Nat), fv])) := kp.trans e9.kp
          generalize L2.upd H8 p9 (.tup [.int (i : Nat), fv]) = H9 at ipart i89 iys9 eki9 dri9 irow9 hL9 eL9 eC9 kp9 ⊢
          have tC : Tup H9 (L2.upd H9 Cc (.lst (ys6 ++ [.ref p9]))) := .lst eC9
          have kC : Kp [Cc] H9 (L2.upd H9 Cc (.lst (ys6 ++ [.ref p9]))) := Kp.refl.upd (by simp)
          have hL10 : Left K (L2.upd H9 Cc (.lst (ys6 ++ [.ref p9]))) n (stkD M v later ((srt n later).take k)) ds := ⟨hL9.len, hL9.nd, fun i' d' hd' => by
            obtain ⟨k', e', dr'⟩ := hL9.at' i' d' hd'
            exact ⟨k', by rw [upd_ne (fun z => Cds (by rw [← z]; exact List.mem_of_getElem? hd'))]; exact e', dr'.mono tC⟩⟩
          have eL10 : (L2.upd H9 Cc (.lst (ys6 ++ [.ref p9]))) L = some (.lst (ds.map V.ref)) := by rw [upd_ne LC]; exact eL9
          have eki10 : (L2.upd H9 Cc (.lst (ys6 ++ [.ref p9]))) di = some (.dK kvi) := by rw [upd_ne hdiC]; exact eki9
          refine ⟨_, rfl, _, rfl, L, _, _, _, rfl, rfl, SqL.of eL10, ref_at edi, _, rfl, _, rfl, di, fv, _, n, M i, kvi, M i v / M v v, parts (srt n later) (M v), rfl, eki10, dri9.mono tC, h12, i89.mono tC, irow9.mono tC, parts_nodup (srt_nodup n later), fun pt hpt => ?_, fun H11 kvs11 k11 e11 dr11 => ?_⟩
          · obtain ⟨h1, h2, h3⟩ := mem_parts.mp hpt
            have h1 := hso h1
            rw [h3]
            exact ⟨hlt _ h1, sm.m i (List.mem_cons_of_mem _ hil) _ (List.mem_cons_of_mem _ h1), sm.l i hil, sm.m v List.mem_cons_self _ (List.mem_cons_of_mem _ h1), sm.p i hil _ h1, sm.d i hil _ h1⟩
          · have tm11 := k11.tup (mob_d eki10)
            refine ⟨_, _, rfl, (kp9.trans (kC.up (by simp))).trans (k11.up (by simp [List.mem_of_getElem? edi])), hL10.upd edi k11 e11 (dr11.congr fun j hj => ?_) (fun i' hi' j hj => ?_), _, k11 Cc _ (by simp [Ne.symm hdiC]) upd_same, ?_⟩
            · rw [aw_parts _ (srt_nodup n later)]
              unfold stkD
              rw [tk]
              by_cases hj' : j ∈ later
              · rw [if_pos ((srt_mem hlt).mpr hj'), if_pos ⟨by simp, hj'⟩]
              · rw [if_neg (fun z => hj' ((srt_mem hlt).mp z)), if_neg (fun z => hj' z.2)]
            · unfold stkD
              rw [tk]
              simp [hi']
            · rw [tk, parts_snoc, if_pos hf, List.map_append]
              exact ((iys9.mono tC).mono tm11).append (.one ((ipart.mono tC).mono tm11))
      · rintro σ H6 ⟨x7, x8, rfl, kp, hL6, ys6, eC6, iys6⟩
        rw [List.take_of_length_le (by rw [List.length_map]; omega)] at hL6 iys6
        have tm := kp.tup mob5
        refine ⟨_, rfl, _, rfl, _, rfl, _, rfl, Cc, ys6, rfl, .inl ⟨SqL.of eC6, fun l2 hl2 => ⟨Nat.le_of_ble_eq_true rfl, fun p10 hp10 => q _ _ ?_ ?_ ?_⟩⟩⟩
        · intro b o hb e
          have hbC : b ≠ Cc := fun z => by rw [z, hCn] at e; cases e
          have e6 := kp b o (by simp only [List.mem_cons, not_or]; exact ⟨hbC, hb⟩) (s5 b o e)
          exact (same_new hp10) _ _ ((same_new hl2) _ _ e6)
        · refine ((hL6.mono (same_new hl2)).mono (same_new hp10)).congr fun i j hj => ?_
          unfold stkD stk
          simp only [srt_mem hlt]
        · have tt := (same_new (o := .tup ys6) hl2).trans (same_new (o := .tup [.int v, (valV kv (.inl (v : Int))).getD (.ref aNOUGHT), .ref l, .ref l2]) hp10)
          have tu := (same_new (o := .tup [.int v, (valV kv (.inl (v : Int))).getD (.ref aNOUGHT), .ref l, .ref l2]) hp10)
          exact .tup (.of upd_same) (.cons (.int _) (.cons (((ipv.mono s5.tup).mono tm).mono tt.tup) (.cons ((irow5.mono tm).mono tt.tup) (.cons (.tup (TT.mono tu.tup (.of upd_same)) (iys6.mono tt.tup)) .nil))))
end
end FW
end

/-! ## W5 -/
section
set_option Elab.async false
set_option linter.all false
set_option maxRecDepth 100000
set_option maxHeartbeats 4000000
namespace FW
open PySem PySem.Spec PyProof.Rows L2 FF
theorem cut_drop {xs : List V} {k : Nat} : cutV xs (some ((k : Nat) : Int)) none = xs.drop k := by
  unfold cutV
  rw [HT.sIx_nat, HT.sIx_none, List.take_of_length_le (by rw [List.length_drop]; omega)]
  by_cases h : k ≤ xs.length
  · rw [Nat.min_eq_left h]
  · rw [List.drop_eq_nil_of_le (by omega), List.drop_eq_nil_of_le (by omega)]
theorem cut_take {xs : List V} {k : Nat} (h : k ≤ xs.length) : cutV xs none (some ((k : Nat) : Int)) = xs.take k := by
  unfold cutV
  rw [HT.sIx_nat, HT.sIx_none, Nat.min_eq_left h]
  simp
/-! ### lists of new dicts -/
theorem lc_fresh {J : It} {n : Nat} {G : Hp → Prop} {Y : Nat → Hp → V → Hp → Prop} (w : Walk J n G Y) {g : TG} {te : TE} {vs : List Nat} {σ : L2.St} {H1 : Hp} {D : Addr} {Qd : Hp → Prop} (P : Nat → Addr → Hp → Prop)
    (m1 : ∀ i d H H', Same H H' → P i d H → P i d H') (m2 : ∀ i d H acc acc', d ≠ D → H D = some (.lst acc) → P i d H → P i d (upd H D (.lst acc'))) (hP : ∀ i d H, P i d H → H d ≠ none) (hD : H1 D = none) (hn : n ≤ 1000) (hG : ∀ H, Same H1 H → G H)
    (hs : ∀ i x H H' (Qy : VK), i < n → Same H1 H → Y i H x H' → (∀ d H4, Same H H4 → H d = none → P i d H4 → Qy (.ref d) H4) → g x (wipe σ vs) H' fun σ2 H2 => wipe σ2 vs = wipe σ vs ∧ te σ2 H2 Qy)
    (hd : ∀ H (ds : List Addr), Same H1 H → H D = some (.lst (ds.map V.ref)) → ds.length = n → ds.Nodup → D ∉ ds → (∀ (k : Nat) (d : Addr), ds[k]? = some d → P k d H ∧ H1 d = none) → Qd H) :
    ∃ W : Nat → Nat → Hp → Prop, (∃ m, W 0 m (upd H1 D (.lst []))) ∧ ∀ i m H, W i m H →
      (J.stop i H ∧ Qd H) ∨ (J.go i H ∧ ∃ Nx : Hp → Prop, (∀ H', Nx H' → ∃ m', m' < m ∧ W (i + 1) m' H') ∧ ∀ x H', J.yld i H x H' → g x (wipe σ vs) H' fun σ2 H2 => wipe σ2 vs = wipe σ vs ∧ tYes σ2 H2 fun b H3 =>
        if b = true then te σ2 H3 fun y H4 => ∃ acc, H4 D = some (.lst acc) ∧ acc.length < sizeLine ∧ Nx (upd H4 D (.lst (acc ++ [y]))) else Nx H3) := by
  refine lc_it w (tt := tYes) (fun i H => Same H1 H ∧ ∃ ds : List Addr, H D = some (.lst (ds.map V.ref)) ∧ ds.length = i ∧ ds.Nodup ∧ D ∉ ds ∧ ∀ (k : Nat) (d : Addr), ds[k]? = some d → P k d H ∧ H1 d = none) ⟨same_new hD, [], upd_same, rfl, by simp, by simp, fun k d e => by simp at e⟩ (fun i H _ h => hG H h.1)
    (fun i x H H' hi h y => ?_) (fun H h => ?_)
  · obtain ⟨s1, ds, eD, l, nd, hDd, hds⟩ := h
    refine hs i x H H' _ hi s1 y fun d H4 s hd0 p => ?_
    have dD : d ≠ D := fun z => by rw [z, eD] at hd0; cases hd0
    have hdd : d ∉ ds := fun hm => by
      obtain ⟨k, hk⟩ := List.getElem?_of_mem hm
      exact hP _ _ _ (hds k d hk).1 hd0
    refine ⟨ds.map V.ref, s D _ eD, small1000 (by rw [List.length_map]; omega), Same.mut (s1.trans s) hD, ds ++ [d], ?_, by simp [l], ?_, ?_, fun k d' e => ?_⟩
    · rw [upd_same, List.map_append]; rfl
    · rw [List.nodup_append]
      exact ⟨nd, by simp, fun a ha b hb e => hdd (by rw [← List.mem_singleton.mp hb, ← e]; exact ha)⟩
    · simp only [List.mem_append, List.mem_singleton, not_or]
      exact ⟨hDd, Ne.symm dD⟩
    · by_cases hk : k < ds.length
      · rw [List.getElem?_append_left hk] at e
        obtain ⟨p', n'⟩ := hds k d' e
        exact ⟨m2 _ _ _ _ _ (fun z => hDd (by rw [← z]; exact List.mem_of_getElem? e)) (s D _ eD) (m1 _ _ _ _ s p'), n'⟩
      · have : k = ds.length := by
          have := (List.getElem?_eq_some_iff.mp e).1
          simp at this
          omega
        subst this
        rw [List.getElem?_append_right (Nat.le_refl _)] at e
        simp at e
        subst e
        rw [l]
        exact ⟨m2 _ _ _ _ _ dD (s D _ eD) p, s1.free hd0⟩
  · obtain ⟨s1, ds, eD, l, nd, hDd, hds⟩ := h
    exact hd H ds s1 eD l nd hDd hds
section
variable {P : Program} {w : World} {K : PySem.W.Frag} {mg : Str → Option Value} {base : Heap}
/-! ### a sheet whose rows have no dict of their own -/
def matOf (rows : List (List Part)) : Mat := fun i j => rowF (rows.getD i []) j
theorem merge_new : ∀ {more acc : List (Key × V)}, ((acc ++ more).map (·.1)).Nodup → mergeK acc more = acc ++ more
  | [], acc, _ => by simp [mergeK]
  | kv :: more, acc, h => by
    have hn : valV acc kv.1 = none := by
      cases e : valV acc kv.1 with
      | none => rfl
      | some v =>
        have := valV_mem e
        rw [List.map_append, List.nodup_append] at h
        exact absurd rfl (h.2.2 _ (List.mem_map.mpr ⟨_, this, rfl⟩) _ (List.mem_map.mpr ⟨kv, List.mem_cons_self, rfl⟩))
    show mergeK (putK acc kv.1 kv.2) more = _
    rw [putK_new _ hn, merge_new (by simpa using h)]
    simp
theorem row_kvs {H : Hp} : ∀ {ys : List V} {r : List Part}, ImAll K H ys (r.map partD) → ∃ (ps : List Addr) (kvs : List (Key × V)), ys = ps.map V.ref ∧ Paired (fun p kv => SqT K H p [kV kv.1, kv.2]) ps kvs ∧ Paired (fun (p : Part) (kv : Key × V) => kv.1 = .inl (p.1 : Int) ∧ Im K H kv.2 (numD p.2)) r kvs
  | _, [], .nil => ⟨[], [], rfl, .nil, .nil⟩
  | _, p :: r, .cons h q => by
    obtain ⟨ps, kvs, e, h1, h2⟩ := row_kvs q
    obtain ⟨t, x, rfl, tt, ix⟩ := part_inv h
    exact ⟨t :: ps, (.inl (p.1 : Int), x) :: kvs, by rw [e]; rfl, .cons tt h1, .cons ⟨rfl, ix⟩ h2⟩
theorem keys_row {H : Hp} : ∀ {r : List Part} {kvs : List (Key × V)}, Paired (fun (p : Part) (kv : Key × V) => kv.1 = .inl (p.1 : Int) ∧ Im K H kv.2 (numD p.2)) r kvs → kvs.map (·.1) = r.map fun p => (.inl (p.1 : Int) : Key)
  | _, _, .nil => rfl
  | _, _, .cons h t => by rw [List.map_cons, List.map_cons, h.1, keys_row t]
theorem vals_row {H : Hp} (j : Nat) : ∀ {r : List Part} {kvs : List (Key × V)}, Paired (fun (p : Part) (kv : Key × V) => kv.1 = .inl (p.1 : Int) ∧ Im K H kv.2 (numD p.2)) r kvs → (valV kvs (.inl (j : Int)) = none ∧ rowF r j = 0) ∨ ∃ v p, valV kvs (.inl (j : Int)) = some v ∧ p ∈ r ∧ rowF r j = p.2 ∧ Im K H v (numD p.2)
  | _, _, .nil => .inl ⟨rfl, rfl⟩
  | p :: r, kv :: kvs, .cons h t => by
    by_cases e : p.1 = j
    · refine .inr ⟨kv.2, p, valV_pos (by rw [h.1, e]), List.mem_cons_self, ?_, h.2⟩
      unfold rowF
      rw [List.find?_cons_of_pos (by simp [e])]; rfl
    · have e' : ¬ kv.1 = .inl (j : Int) := by rw [h.1]; exact fun z => e (kint.mp z)
      have er : rowF (p :: r) j = rowF r j := by
        unfold rowF
        rw [List.find?_cons_of_neg (by simp [e])]
      rw [valV_neg e', er]
      rcases vals_row j t with z | ⟨v, q, h1, h2, h3⟩
      · exact .inl z
      · exact .inr ⟨v, q, h1, List.mem_cons_of_mem _ h2, h3⟩
theorem dr_row {H : Hp} {n : Nat} {r : List Part} {kvs : List (Key × V)} (gr : GoodRow n r) (h : Paired (fun (p : Part) (kv : Key × V) => kv.1 = .inl (p.1 : Int) ∧ Im K H kv.2 (numD p.2)) r kvs) : mergeK [] kvs = kvs ∧ DR K H n true (rowF r) kvs := by
  have ek := keys_row h
  have nd : (kvs.map (·.1)).Nodup := by
    rw [ek]
    have := gr.inc
    rw [List.pairwise_map] at this
    rw [List.Nodup, List.pairwise_map]
    exact this.imp fun h e => by have := kint.mp e; omega
  refine ⟨by rw [merge_new (by simpa using nd)]; rfl, nd, fun p hp => ?_, fun j hj => ?_⟩
  · have : p.1 ∈ kvs.map (·.1) := List.mem_map.mpr ⟨p, hp, rfl⟩
    rw [ek] at this
    obtain ⟨q, hq, e⟩ := List.mem_map.mp this
    exact ⟨q.1, e.symm, (gr.good q hq).1⟩
  · rcases vals_row j h with z | ⟨v, q, h1, h2, h3, h4⟩
    · exact .inl z
    · exact .inr ⟨v, h1, by rw [h3]; exact h4, fun _ => by rw [h3]; exact (gr.good q h2).2⟩
theorem dr_alive {H : Hp} {d : Addr} {n : Nat} {f : Nat → Rat} (h : ∃ kvs : List (Key × V), H d = some (HO.dK kvs) ∧ DR K H n true f kvs) : H d ≠ none := by
  obtain ⟨k, e, _⟩ := h
  rw [e]; exact fun z => nomatch z
def RowsP (K : PySem.W.Frag) (H : Hp) (xs : List V) (rows : List (List Part)) : Prop := xs.length = rows.length ∧ ∀ (i : Nat) (x : V) (r : List Part), xs[i]? = some x → rows[i]? = some r → ∃ t ys, x = .ref t ∧ PlainT H t ys ∧ ImAll K H ys (r.map partD)
theorem RowsP.mono {H H' : Hp} {xs : List V} {rows : List (List Part)} (h : RowsP K H xs rows) (t : Tup H H') : RowsP K H' xs rows := ⟨h.1, fun i x r e1 e2 => by
  obtain ⟨c, ys, e, p, q⟩ := h.2 i x r e1 e2
  exact ⟨c, ys, e, p.mono t, q.mono t⟩⟩
theorem RowsP.im {H : Hp} {xs : List V} {rows : List (List Part)} (h : RowsP K H xs rows) : ImAll K H xs (rows.map rowD) := imAll_get (by rw [List.length_map]; exact h.1) fun j y d e1 e2 => by
  rw [List.getElem?_map] at e2
  obtain ⟨r, er, rfl⟩ := Option.map_eq_some_iff.mp e2
  obtain ⟨t, ys, rfl, p, q⟩ := h.2 j y r e1 er
  exact .tup p.tt q
def SheetV (K : PySem.W.Frag) (H : Hp) (v : V) (n : Nat) (rows : List (List Part)) : Prop := ∃ a b xs, v = .ref a ∧ SqT K H a [.int n, .ref b] ∧ SqT K H b xs ∧ RowsP K H xs rows
theorem SheetV.im {H : Hp} {v : V} {n : Nat} {rows : List (List Part)} (h : SheetV K H v n rows) : Im K H v (sheetD n rows) := by
  obtain ⟨a, b, xs, rfl, ta, tb, ix⟩ := h
  exact .tup ta (.cons (.int _) (.cons (.tup tb ix.im) .nil))
theorem SheetV.mono {H H' : Hp} {v : V} {n : Nat} {rows : List (List Part)} (h : SheetV K H v n rows) (t : Tup H H') : SheetV K H' v n rows := by
  obtain ⟨a, b, xs, e, ta, tb, ix⟩ := h
  exact ⟨a, b, xs, e, TT.mono t ta, TT.mono t tb, ix.mono t⟩
def SmRun (A : Mat) (o : List Nat) : Prop := ∀ p v r, o = p ++ v :: r → (∀ p' v' r', o = p' ++ v' :: r' → p'.length ≤ p.length → runM A p' (v' :: r') v' v' ≠ 0) → SmStep (runM A p (v :: r)) v r
def sp_struck (C : Addr) (K : PySem.W.Frag) : Sp := fun vs H Q E => ∃ (v : V) (a : Addr) (n : Nat) (rows : List (List Part)) (o : List Nat), vs = [v, .ref a] ∧ SheetV K H v n rows ∧ SqL K H a (o.map fun j : Nat => V.int (j : Int)) ∧ GoodRows n rows ∧ n ≤ 7 ∧ o.length = n ∧ o.Nodup ∧ (∀ j ∈ o, j < n) ∧ SmRun (matOf rows) o ∧
  (¬ Piv (matOf rows) o → ∀ d H', Same H H' → E (.ref C) d H') ∧
  (Piv (matOf rows) o → RetL K ((work n (matOf rows) o).map w1D) H Q)
abbrev s_struck : Stmt := topS 36
theorem sc_struck : FnScope ["sheet", "order", "left", "row", "at", "v"] ["sheet", "order"] (defScope s_struck) := ⟨rfl, rfl, rfl, by decide +kernel, rfl, by decide +kernel, by decide +kernel⟩
theorem fn_struck {C F fI : Addr} {fd : FuncData} (T : Tops K mg) (N : NoPv K mg C F fI fd) : Fn P w K mg base (L2.CX P w) 9 "struck" ["sheet", "order"] (sp_struck C K) := by
  have h_is_order : Fn P w K mg base CX0 8 "is_order" _ _ := (fn_is_order T).mono (by decide)
  have h_web_of_sheet : Fn P w K mg base CX0 8 "web_of_sheet" _ _ := (fn_web_of_sheet T).mono (by decide)
  have h_step : Fn P w K mg base (L2.CX P w) 8 "step" _ _ := (fn_step T N).mono (by decide)
  refine T.d_struck.fnX sc_struck (fun _ _ _ _ _ _ us hl => match us, hl with | [_, _], _ => rfl) (fun vs H Q E h => ?_) (fun f cdv A outer s H vs Q E hr h => ?_)
  · obtain ⟨v, a, n, rows, o, rfl, _⟩ := h; rfl
  · obtain ⟨v, a, n, rows, o, rfl, sv, la, gr, h7, hl, nd, hlt, hsm, hE, q⟩ := h
    obtain ⟨sa, sb, xs, rfl, ta, tb, rp⟩ := id sv
    obtain ⟨grl, gr12, grr⟩ := id gr
    have lx : xs.length = n := by rw [rp.1, grl]
    refine ⟨_, (pss_cons (ps_if (pt_not (pt_val (pe_fn h_is_order hr pass0 (pa_cons (pe_fn h_web_of_sheet hr pass0 (pa_cons (pv 0) pa_nil)) (pa_cons (pv 1) pa_nil)))))
  (pss_one ps_never)
  pss_nil)
  (pss_cons (ps_set (i := 2) sc_struck.nd rfl (.inr rfl) (pe_lc (own := [("row", 3)]) (g := gName 3) (tt := tYes) rfl sc_struck.nd (pi_tup (pe_ix ix_tupK (pv 0) pe_int (fun _ _ => rfl))) (blkOk_by (N := ["sheet", "order", "left", "row", "at", "v"]) (sc := defScope s_struck) (by decide +kernel)) (fun _ _ _ _ _ => (pg_name (i := 3) sc_struck.nd rfl (.inl rfl))) (fun _ _ _ _ _ => pts_nil) (fun _ _ _ _ _ => (pe_callTy (call_dictT rfl) (by rfl) T.B.dict bo_dict (pa_cons (pv 3) pa_nil)))))
  (pss_one (ps_ret (pe_lcX (own := [("at", 4), ("v", 5)]) (g := gTup K 2 (gCons (gName 4) (gCons (gName 5) (gNil)))) (tt := tYes) rfl rfl (takes_of rfl rfl rfl rfl) (fun _ _ _ _ h => h) rfl sc_struck.nd (pi_enum (by rfl) T.B.enumerate (pa_cons (pv 1) pa_nil)) (blkOk_by (N := ["sheet", "order", "left", "row", "at", "v"]) (sc := defScope s_struck) (by decide +kernel)) (fun _ _ _ _ _ => (pg_tup rfl (pgs_cons (pg_name (i := 4) sc_struck.nd rfl (.inl rfl)) (pgs_cons (pg_name (i := 5) sc_struck.nd rfl (.inl rfl)) pgs_nil)))) (fun _ _ _ _ _ => pts_nil) (fun _ _ _ _ _ _ hx => (pe_fn h_step hr hx (pa_cons (pv 2) (pa_cons (pv 5) (pa_cons (pe_slice sl_listK (pv 1) (po_some (pe_op op_add (pv 4) pe_int)) po_none) pa_nil)))))))))), ?_⟩
    repeat' (first
      | exact q
      | refine ⟨_, _, _, _, rfl, rfl, (by assumption), rfl, ?_⟩
      | refine ⟨_, _, _, _, true, rfl, .ty _, (by first | exact .base (.int _) | exact ty_tup (by assumption) | exact ty_lst (by assumption)), kit_ty (by decide +kernel), ?_⟩
      | refine ⟨_, _, _, _, false, rfl, .ty _, (by first | exact .base (.int _) | exact ty_tup (by assumption) | exact ty_lst (by assumption)), kit_ty (by decide +kernel), ?_⟩
      | refine ⟨_, _, rfl, .inr (by assumption), ?_⟩
      | refine ⟨_, _, rfl, .inl (by assumption), ?_⟩
      | refine ⟨_, _, rfl, (by assumption), rfl, ?_⟩
      | refine ⟨_, rfl, ?_⟩
      | refine ⟨_, _, rfl, rfl, ?_⟩
      | refine ⟨Nat.le_of_ble_eq_true rfl, fun p hp => ?_⟩
      | refine ⟨_, _, rfl, ?_⟩
      | refine ⟨rfl, ?_⟩
      | refine ⟨mul_ok4 (by assumption) (by assumption), ?_⟩
      | fail)
    refine ⟨n, _, rows, rfl, sv.im, gr, h7, fun b y H1 s1 tb1 => ?_⟩
    refine ⟨_, rfl, b, a, n, y, o, rfl, tb1, s1.seq la, hl, by omega, nd, hlt, fun H2 s2 => ?_⟩
    have s3 := s1.trans s2
    have ta2 := Same.tt s3 ta
    have tb2 := Same.tt s3 tb
    repeat' (first
      | exact q
      | refine ⟨_, _, _, _, rfl, rfl, (by assumption), rfl, ?_⟩
      | refine ⟨_, _, _, _, true, rfl, .ty _, (by first | exact .base (.int _) | exact ty_tup (by assumption) | exact ty_lst (by assumption)), kit_ty (by decide +kernel), ?_⟩
      | refine ⟨_, _, _, _, false, rfl, .ty _, (by first | exact .base (.int _) | exact ty_tup (by assumption) | exact ty_lst (by assumption)), kit_ty (by decide +kernel), ?_⟩
      | refine ⟨_, _, rfl, .inr (by assumption), ?_⟩
      | refine ⟨_, _, rfl, .inl (by assumption), ?_⟩
      | refine ⟨_, _, rfl, (by assumption), rfl, ?_⟩
      | refine ⟨_, rfl, ?_⟩
      | refine ⟨_, _, rfl, rfl, ?_⟩
      | refine ⟨Nat.le_of_ble_eq_true rfl, fun p hp => ?_⟩
      | refine ⟨_, _, rfl, ?_⟩
      | refine ⟨rfl, ?_⟩
      | refine ⟨mul_ok4 (by assumption) (by assumption), ?_⟩
      | fail)
    refine ⟨⟨_, tb2⟩, fun D hD => lc_fresh (walk_tup (xs := xs)) (fun i d H => ∃ kvs, H d = some (.dK kvs) ∧ DR K H n true (matOf rows i) kvs) (fun i d H H' s ⟨k, e, dr⟩ => ⟨k, s _ _ e, dr.mono s.tup⟩) (fun i d H acc acc' hne e ⟨k, e2, dr⟩ => ⟨k, by rw [upd_ne hne]; exact e2, dr.mono (.lst e)⟩) (fun i d H h => dr_alive h) hD (by omega) (fun H' s => Same.tt s tb2) (fun i x H3 H4 Qy hi s4 yy k => ?_) (fun H3 ds s4 eD lds ndd hDd hds => ?_)⟩
    · obtain ⟨rfl, ex⟩ := yy
      have er : rows[i]? = some (rows[i]'(by omega)) := List.getElem?_eq_getElem _
      generalize rows[i]'(by omega) = r at er
      obtain ⟨t, ys, rfl, pt4, iy⟩ := (rp.mono (s3.trans s4).tup).2 i x r ex er
      obtain ⟨ps, kvs, rfl, h1, h2⟩ := row_kvs iy
      obtain ⟨em, dr⟩ := dr_row (grr r (List.mem_of_getElem? er)) h2
      refine ⟨rfl, _, rfl, t, ps, kvs, rfl, pt4, h1, fun p hp => k _ _ (same_new hp) hp ⟨kvs, by rw [upd_same, em], ?_⟩⟩
      have : matOf rows i = rowF r := by
        unfold matOf
        rw [List.getD_eq_getElem?_getD, er]; rfl
      rw [this]
      exact dr.mono (same_new hp).tup
    · have s5 := s3.trans s4
      have hDn : H D = none := s3.free hD
      have L0 : Left K H3 n (matOf rows) ds := ⟨by rw [lds, lx], ndd, fun k d e => (hds k d e).1⟩
      have fresh : ∀ d ∈ ds, H d = none := fun d hm => by
        obtain ⟨k, hk⟩ := List.getElem?_of_mem hm
        exact s3.free (hds k d hk).2
      have lo : (o.map fun j : Nat => V.int (j : Int)).length = n := by rw [List.length_map, hl]
      repeat' (first
      | exact q
      | refine ⟨_, _, _, _, rfl, rfl, (by assumption), rfl, ?_⟩
      | refine ⟨_, _, _, _, true, rfl, .ty _, (by first | exact .base (.int _) | exact ty_tup (by assumption) | exact ty_lst (by assumption)), kit_ty (by decide +kernel), ?_⟩
      | refine ⟨_, _, _, _, false, rfl, .ty _, (by first | exact .base (.int _) | exact ty_tup (by assumption) | exact ty_lst (by assumption)), kit_ty (by decide +kernel), ?_⟩
      | refine ⟨_, _, rfl, .inr (by assumption), ?_⟩
      | refine ⟨_, _, rfl, .inl (by assumption), ?_⟩
      | refine ⟨_, _, rfl, (by assumption), rfl, ?_⟩
      | refine ⟨_, rfl, ?_⟩
      | refine ⟨_, _, rfl, rfl, ?_⟩
      | refine ⟨Nat.le_of_ble_eq_true rfl, fun p hp => ?_⟩
      | refine ⟨_, _, rfl, ?_⟩
      | refine ⟨rfl, ?_⟩
      | refine ⟨mul_ok4 (by assumption) (by assumption), ?_⟩
      | fail)
      refine ⟨a, _, rfl, s5.seq la, fun D2 hD2 => lc_it (walk_enum (xs := o.map fun j : Nat => V.int (j : Int))) (tt := tYes) (fun i H' => Same H H' ∧ H' D = some (.lst (ds.map V.ref)) ∧ Left K H' n (runM (matOf rows) (o.take i) (o.drop i)) ds ∧
        (∀ p v r, o = p ++ v :: r → p.length < i → runM (matOf rows) p (v :: r) v v ≠ 0) ∧ ∃ ys, H' D2 = some (.lst ys) ∧ ImAll K H' ys (((work n (matOf rows) o).take i).map w1D)) ?_ (fun i H' _ ⟨s6, _⟩ => s6.seq la) (fun i x H6 H7 hi ⟨s6, eD6, L6, piv6, ys, e2, iys⟩ ⟨T1, x0, y0, ex, hT, eH, ei, ey⟩ => ?_) (fun H6 ⟨s6, eD6, L6, piv6, ys, e2, iys⟩ => ?_)⟩
      · refine ⟨Same.mut s5 (s5.free hD2), ?_, ?_, fun p v r _ h => by omega, [], upd_same, .nil⟩
        · rw [upd_ne (fun z => by rw [← z, eD] at hD2; cases hD2)]; exact eD
        · exact L0.mono (same_new hD2)
      · subst ex eH
        cases ei
        obtain ⟨v, ev, rfl⟩ := int_at ey
        have hio : i < o.length := by rw [List.length_map] at hi; exact hi
        have ed : o.drop i = v :: o.drop (i + 1) := by
          rw [List.drop_eq_getElem_cons hio]
          congr 1
          rw [List.getElem?_eq_getElem hio] at ev
          exact Option.some.inj ev
        have eo : o = o.take i ++ v :: o.drop (i + 1) := by rw [← ed, List.take_append_drop]
        have lp : (o.take i).length = i := by rw [List.length_take]; omega
        rw [ed] at L6
        have ndc : (v :: o.drop (i + 1)).Nodup := by rw [← ed]; exact nd.sublist (List.drop_sublist i o)
        have hvn := hlt v (List.mem_of_getElem? ev)
        have t1 := same_new (o := .tup [.int (i : Nat), .int (v : Nat)]) hT
        have e2' := t1 _ _ e2
        refine ⟨_, _, rfl, TT.of upd_same, rfl, _, _, rfl, _, _, rfl, rfl, rfl, ?_⟩
        refine ⟨_, rfl, _, rfl, _, rfl, _, rfl, _, _, rfl, rfl, _, rfl, a, _, rfl, (s6.trans t1).seq la, fun p hp => ?_⟩
        have t2 := t1.trans (same_new (o := .lst (cutV (o.map fun j : Nat => V.int (j : Int)) (some (((i : Nat) : Int) + 1)) none)) hp)
        have s8 := s6.trans t2
        have ecut : cutV (o.map fun j : Nat => V.int (j : Int)) (some (((i : Nat) : Int) + 1)) none = (o.drop (i + 1)).map fun j : Nat => V.int (j : Int) := by
          rw [show (((i : Nat) : Int) + 1) = ((i + 1 : Nat) : Int) from rfl, cut_drop, List.map_drop]
        refine ⟨D, p, v, n, o.drop (i + 1), runM (matOf rows) (o.take i) (v :: o.drop (i + 1)), ds, rfl, t2 _ _ eD6, ?_, L6.mono t2, by omega, hvn, fun j hj => hlt j (List.mem_of_mem_drop hj), ndc, fun hz => ?_, fun hz d H8 s9 => ?_, fun hz u H8 k8 L8 i8 => ?_⟩
        · rw [← ecut]; exact SqL.of upd_same
        · refine hsm _ v _ eo fun p' v' r' e' hle => ?_
          rw [lp] at hle
          rcases Nat.lt_or_eq_of_le hle with hlt' | heq
          · exact piv6 p' v' r' e' hlt'
          · have z := List.append_inj (e'.symm.trans eo) (by rw [heq, lp])
            obtain ⟨z1, z2⟩ := z
            cases z2
            rw [z1]; exact hz
        · refine hE (fun hp => ?_) d H8 (s8.trans s9)
          rw [eo] at hp
          exact piv_at _ _ _ _ hp hz
        · have D2ds : D2 ∉ ds := fun hm => by
            obtain ⟨k, hk⟩ := List.getElem?_of_mem hm
            obtain ⟨k', e', _⟩ := (hds k D2 hk).1
            rw [hD2] at e'; cases e'
          have DD2 : D ≠ D2 := fun z => by rw [← z, eD] at hD2; cases hD2
          have mob8 := (L6.mono t2).mob
          have e28 := k8 D2 _ D2ds (t2 _ _ e2)
          have sH8 : Same H H8 := fun b o hb => k8 b o (fun hm => by rw [fresh b hm] at hb; cases hb) (s8 b o hb)
          have tm2 : Tup H8 (L2.upd H8 D2 (.lst (ys ++ [u]))) := .lst e28
          refine ⟨ys, e28, small1000 ?_, Same.mut sH8 (s5.free hD2), ?_, ?_, fun p' v' r' e' hle => ?_, _, upd_same, ?_⟩
          · rw [iys.length, List.length_map, List.length_take]; omega
          · rw [upd_ne DD2]; exact k8 D _ hDd (t2 _ _ eD6)
          · have e3 : runM (matOf rows) (o.take (i + 1)) (o.drop (i + 1)) = stk (runM (matOf rows) (o.take i) (v :: o.drop (i + 1))) v (o.drop (i + 1)) := by
              rw [List.take_succ, ev]
              exact runM_snoc _ _ _ _
            rw [e3]
            exact ⟨L8.len, L8.nd, fun k d e => by
              obtain ⟨kk, ek, dk⟩ := L8.at' k d e
              exact ⟨kk, by rw [upd_ne (fun z => D2ds (by rw [← z]; exact List.mem_of_getElem? e))]; exact ek, dk.mono tm2⟩⟩
          · rcases Nat.lt_or_eq_of_le (Nat.le_of_lt_succ hle) with hlt' | heq
            · exact piv6 p' v' r' e' hlt'
            · have z := List.append_inj (e'.symm.trans eo) (by rw [heq, lp])
              obtain ⟨z1, z2⟩ := z
              cases z2
              rw [z1]; exact hz
          · have ew : (work n (matOf rows) o)[i]? = some (w1 n (runM (matOf rows) (o.take i) (v :: o.drop (i + 1))) v (o.drop (i + 1))) := by
              have := work_at n (o.take i) (matOf rows) v (o.drop (i + 1))
              rw [← eo, lp] at this
              exact this
            rw [List.take_succ, ew, List.map_append]
            exact ((iys.mono ((same_new hT).trans (same_new hp)).tup |>.mono (k8.tup mob8)).mono tm2).append (.one (i8.mono tm2))
      · rw [lo] at piv6 iys
        rw [List.take_of_length_le (by rw [work_length]; omega)] at iys
        refine q (piv_of _ _ fun p v r e => piv6 p v r e ?_) D2 ys H6 s6 (s5.free hD2) e2 iys
        rw [← hl, e, List.length_append, List.length_cons]; omega
end
end FW
end

/-! ## W6 -/
section
set_option Elab.async false
set_option linter.all false
set_option maxRecDepth 100000
set_option maxHeartbeats 4000000
namespace FW
open PySem PySem.Spec PyProof.Rows L2 FF
section
variable {P : Program} {w : World} {K : PySem.W.Frag} {mg : Str → Option Value} {base : Heap}
theorem w1_inv {H : Hp} {v : V} {x : W1} (h : Im K H v (w1D x)) : ∃ a y r c, v = .ref a ∧ SqT K H a [.int (x.1 : Nat), y, .ref r, .ref c] ∧ Im K H y (numD x.2.1) ∧ Im K H (.ref r) (rowD x.2.2.1) ∧ Im K H (.ref c) (rowD x.2.2.2) := by
  obtain ⟨a, xs, rfl, t, z⟩ := h.tup_inv
  cases z with
  | cons h1 z => cases z with
    | cons h2 z => cases z with
      | cons h3 z => cases z with
        | cons h4 z =>
          cases z
          rw [h1.int_inv] at t
          obtain ⟨r, _, rfl, _, _⟩ := id h3.tup_inv
          obtain ⟨c, _, rfl, _, _⟩ := id h4.tup_inv
          exact ⟨a, _, r, c, rfl, t, h2, h3, h4⟩
/-- ((v, x),) + row -/
theorem cat_row {H : Hp} {a b : Addr} {p : Part} {r : List Part} {Q : VK} (hx : Im K H (.ref a) (rowD [p])) (hc : Im K H (.ref b) (rowD r)) (hr : r.length ≤ 100) (k : ∀ c H', Same H H' → Im K H' (.ref c) (rowD (p :: r)) → Q (.ref c) H') : rCatT K (.ref a) (.ref b) H Q := by
  obtain ⟨_, xs, e, ta, ia⟩ := hx.tup_inv
  cases e
  obtain ⟨x, rfl, ix⟩ := ia.one_inv
  obtain ⟨_, ys, e, tb, ib⟩ := hc.tup_inv
  cases e
  have ly : ys.length = r.length := by rw [ib.length, List.length_map]
  refine ⟨a, b, [x], ys, rfl, rfl, ta, tb, by simp, Nat.le_trans (show [x].length + ys.length ≤ 200 by simp; omega) (by decide), fun e => ?_, fun _ q hq => ?_⟩
  · subst e
    have : r = [] := List.eq_nil_of_length_eq_zero (by simpa using ly.symm)
    subst this
    exact k a H (Same.refl H) hx
  · exact k q _ (same_new hq) (.tup (.of upd_same) (.cons (ix.mono (same_new hq).tup) (ib.mono (same_new hq).tup)))
theorem new_row1 {H : Hp} {p0 p : Addr} {x : V} {v : Nat} {q : Rat} (hp0 : H p0 = none) (hp : L2.upd H p0 (.tup [.int (v : Nat), x]) p = none) (ix : Im K H x (numD q)) : Im K (L2.upd (L2.upd H p0 (.tup [.int (v : Nat), x])) p (.tup [.ref p0])) (.ref p) (rowD [(v, q)]) := by
  have t := same_new (o := .tup [.ref p0]) hp
  exact .tup (.of upd_same) (.one (.tup (TT.mono t.tup (.of upd_same)) (.cons (.int _) (.cons (ix.mono ((same_new (o := .tup [.int (v : Nat), x]) hp0).trans t).tup) .nil))))
theorem take_succ_row {r : List Part} {k : Nat} {p : Part} (nd : (plc r).Nodup) (e : r[k]? = some p) (j : Nat) : rowF (r.take (k + 1)) j = (if j = p.1 then p.2 else rowF (r.take k) j) ∧ rowF (r.take k) p.1 = 0 := by
  have h := take_ne nd e
  refine ⟨?_, rowF_out fun q hq z => h q hq z⟩
  rw [List.take_succ, e]
  exact rowF_snoc p j fun q hq z => h q hq z
/-- the lists that were made, none of them at R -/
def LsR (K : PySem.W.Frag) (H : Hp) (R : Addr) (xs : List V) (rs : List (List Part)) : Prop := xs.length = rs.length ∧ ∀ (i : Nat) (x : V) (r : List Part), xs[i]? = some x → rs[i]? = some r → ∃ b ys, x = .ref b ∧ b ≠ R ∧ H b = some (.lst ys) ∧ ImAll K H ys (r.map partD)
theorem LsR.snoc {H H' : Hp} {R b : Addr} {xs ys : List V} {rs : List (List Part)} {r : List Part} (h : LsR K H R xs rs) (k : ∀ c zs, c ≠ R → H c = some (.lst zs) → H' c = some (.lst zs)) (t : Tup H H') (hb : b ≠ R) (e : H' b = some (.lst ys)) (i : ImAll K H' ys (r.map partD)) : LsR K H' R (xs ++ [.ref b]) (rs ++ [r]) := by
  refine ⟨by simp [h.1], fun j x r' e1 e2 => ?_⟩
  by_cases hj : j < xs.length
  · rw [List.getElem?_append_left hj] at e1
    rw [List.getElem?_append_left (by rw [← h.1]; exact hj)] at e2
    obtain ⟨c, zs, h1, h2, h3, h4⟩ := h.2 j x r' e1 e2
    exact ⟨c, zs, h1, h2, k c zs h2 h3, h4.mono t⟩
  · have hl := h.1
    have : j = xs.length := by
      have := (List.getElem?_eq_some_iff.mp e1).1
      simp at this
      omega
    subst this
    rw [List.getElem?_append_right (Nat.le_refl _)] at e1
    rw [hl, List.getElem?_append_right (Nat.le_refl _)] at e2
    simp at e1 e2
    subst e1 e2
    exact ⟨b, ys, rfl, hb, e, i⟩
/-- the places of a dict's items, in their order -/
def keyN : Key → Nat
  | .inl i => i.toNat
  | .inr _ => 0
def plK (kvs : List (Key × V)) : List Nat := kvs.map fun p => keyN p.1
theorem dr_pl {H : Hp} {n : Nat} {st : Bool} {f : Nat → Rat} {kvs : List (Key × V)} (h : DR K H n st f kvs) : (plK kvs).Nodup ∧ (∀ j ∈ plK kvs, j < n) ∧ (∀ j < n, f j ≠ 0 → j ∈ plK kvs) ∧ ∀ (k : Nat) (key : Key) (v : V), kvs[k]? = some (key, v) → ∃ j, (plK kvs)[k]? = some j ∧ key = .inl (j : Int) ∧ j < n ∧ Im K H v (numD (f j)) := by
  have kj : ∀ p ∈ kvs, p.1 = .inl ((keyN p.1 : Nat) : Int) ∧ keyN p.1 < n := fun p hp => by
    obtain ⟨j, e, hj⟩ := h.ks p hp
    rw [e]; exact ⟨rfl, hj⟩
  refine ⟨?_, fun j hj => ?_, fun j hj hz => ?_, fun k key v e => ?_⟩
  · have := h.nd
    unfold plK
    rw [List.Nodup, List.pairwise_map] at this ⊢
    refine List.Pairwise.imp_of_mem (fun {a b} ha hb hne e => hne ?_) this
    rw [(kj a ha).1, (kj b hb).1, e]
  · obtain ⟨p, hp, rfl⟩ := List.mem_map.mp hj
    exact (kj p hp).2
  · rcases h.vs j hj with ⟨_, e⟩ | ⟨v, e, _⟩
    · exact absurd e hz
    · exact List.mem_map.mpr ⟨_, valV_mem e, rfl⟩
  · have hm := List.mem_of_getElem? e
    obtain ⟨e1, e2⟩ := kj _ hm
    refine ⟨keyN key, by unfold plK; rw [List.getElem?_map, e]; rfl, e1, e2, ?_⟩
    have hv := valV_of_mem h.nd hm
    have e1 : key = .inl ((keyN key : Nat) : Int) := e1
    have e2 : keyN key < n := e2
    rw [e1] at hv
    rcases h.vs _ e2 with ⟨z, _⟩ | ⟨v', z, iv, _⟩
    · rw [z] at hv; cases hv
    · rw [z] at hv; cases hv; exact iv
theorem perm_row {n : Nat} {l : List Nat} {f : Nat → Rat} {r : List Part} (gr : GoodRow n r) (nd : l.Nodup) (hl : ∀ j ∈ l, j < n) (hf : ∀ j < n, f j ≠ 0 → j ∈ l) (e : ∀ j < n, f j = rowF r j) : (parts l f).Perm r := by
  have nr : (plc r).Nodup := gr.inc.imp fun h => Nat.ne_of_lt h
  have n1 : (parts l f).Nodup := by
    have := parts_nodup (g := f) nd
    rw [List.Nodup, List.pairwise_map] at this
    exact this.imp fun h e => h (by rw [e])
  have n2 : r.Nodup := by
    have := nr
    unfold plc at this
    rw [List.Nodup, List.pairwise_map] at this
    exact this.imp fun h e => h (by rw [e])
  refine (List.perm_ext_iff_of_nodup n1 n2).mpr fun p => ?_
  rw [mem_parts]
  constructor
  · rintro ⟨h1, h2, h3⟩
    have h4 := hl _ h1
    rw [e _ h4] at h2 h3
    have := rowF_ne h2
    rw [← h3] at this
    exact this
  · intro hp
    obtain ⟨g1, g2⟩ := gr.good p hp
    have := rowF_mem nr hp
    refine ⟨hf _ g1 ?_, ?_, ?_⟩ <;> rw [e _ g1, this]
    · exact g2
    · exact g2
def sp_put_back (K : PySem.W.Frag) : Sp := fun vs H Q _ => ∃ (a : Addr) (n : Nat) (ys : List V) (ws : List W1) (rows : List (List Part)), vs = [.int n, .ref a] ∧ SqL K H a ys ∧ ImAll K H ys (ws.map w1D) ∧ ws.length ≤ 12 ∧ GoodRows n rows ∧ PutOk n ws ∧
  (∀ i < n, ∀ j < n, ws.foldl addW (fun _ _ => 0) i j = matOf rows i j) ∧ RetIm K (sheetD n rows) H Q
abbrev s_put_back : Stmt := topS 37
theorem sc_put_back : FnScope ["n", "work", "found", "i", "v", "pivot", "row", "column", "factor", "j", "number", "rows", "own"] ["n", "work"] (defScope s_put_back) := ⟨rfl, rfl, rfl, by decide +kernel, rfl, by decide +kernel, by decide +kernel⟩
theorem fn_put_back (T : Tops K mg) : Fn P w K mg base CX0 8 "put_back" ["n", "work"] (sp_put_back K) := by
  have h_sheet_of : Fn P w K mg base CX0 7 "sheet_of" _ _ := (fn_sheet_of T).mono (by decide)
  have h_plus : Fn P w K mg base CX0 7 "plus" _ _ := (fn_plus T).mono (by decide)
  have h_times : Fn P w K mg base CX0 7 "times" _ _ := (fn_times T).mono (by decide)
  obtain ⟨aNOUGHT, mNOUGHT, sNOUGHT⟩ := T.v_NOUGHT
  obtain ⟨aONE, mONE, sONE⟩ := T.v_ONE
  refine T.d_put_back.fn sc_put_back (fun _ _ _ _ _ _ us hl => match us, hl with | [_, _], _ => rfl) (fun vs H Q E h => ?_) (fun f cdv A outer s H vs Q E hr h => ?_)
  · obtain ⟨a, n, ys, ws, rows, rfl, _⟩ := h; rfl
  · obtain ⟨a, n, ys, ws, rows, rfl, la, iys, hw, gr, ok, hm, q⟩ := h
    refine ⟨_, (pss_cons (ps_setLc (i := 2) (own := [("i", 3)]) (g := gName 3) (tt := tYes) rfl sc_put_back.nd rfl rfl (sw_true rfl rfl rfl (by decide +kernel)) (pi_range1 (by rfl) T.B.range (pa_cons (pv 0) pa_nil)) (blkOk_by (N := ["n", "work", "found", "i", "v", "pivot", "row", "column", "factor", "j", "number", "rows", "own"]) (sc := defScope s_put_back) (by decide +kernel)) (fun _ _ _ _ _ => (pg_name (i := 3) sc_put_back.nd rfl (.inl rfl))) (fun _ _ _ _ _ => pts_nil) (fun _ _ _ _ _ => pe_dnewK))
  (pss_cons (ps_for PassesOwn.never rfl (pi_list (pv 1)) (pg_tup rfl (pgs_cons (pg_name (i := 4) sc_put_back.nd rfl (.inl rfl)) (pgs_cons (pg_name (i := 5) sc_put_back.nd rfl (.inl rfl)) (pgs_cons (pg_name (i := 6) sc_put_back.nd rfl (.inl rfl)) (pgs_cons (pg_name (i := 7) sc_put_back.nd rfl (.inl rfl)) pgs_nil)))))
  (pss_one (ps_for PassesOwn.never rfl (pi_tup (pe_op op_catTK (pe_tup (pa_cons (pe_tup (pa_cons (pv 4) (pa_cons (pe_glob (v := .ref aONE) (by rfl) mONE rfl) pa_nil))) pa_nil)) (pv 7))) (pg_tup rfl (pgs_cons (pg_name (i := 3) sc_put_back.nd rfl (.inl rfl)) (pgs_cons (pg_name (i := 8) sc_put_back.nd rfl (.inl rfl)) pgs_nil)))
  (pss_one (ps_for PassesOwn.never rfl (pi_tup (pe_op op_catTK (pe_tup (pa_cons (pe_tup (pa_cons (pv 4) (pa_cons (pv 5) pa_nil))) pa_nil)) (pv 6))) (pg_tup rfl (pgs_cons (pg_name (i := 9) sc_put_back.nd rfl (.inl rfl)) (pgs_cons (pg_name (i := 10) sc_put_back.nd rfl (.inl rfl)) pgs_nil)))
  (pss_one (ps_dput (hu_of hr) (pe_ix ix_listK (pv 2) (pv 3) (fun _ _ => rfl)) (pv 9) (pe_fn h_plus hr pass0 (pa_cons (pe_dget2 (hu_of hr) (pe_ix ix_listK (pv 2) (pv 3) (fun _ _ => rfl)) (pv 9) (pe_glob (v := .ref aNOUGHT) (by rfl) mNOUGHT rfl) ⟨rfl, rfl, rfl, rfl⟩) (pa_cons (pe_fn h_times hr pass0 (pa_cons (pv 8) (pa_cons (pv 10) pa_nil))) pa_nil))) rfl)))))))
  (pss_cons (ps_set (i := 11) sc_put_back.nd rfl (.inl rfl) (pe_lst pa_nil))
  (pss_cons (ps_for PassesOwn.never rfl (pi_list (pv 2)) (pg_name (i := 12) sc_put_back.nd rfl (.inl rfl))
  (pss_one (ps_expr (pe_bm PySem.F.plainAttrs_list PySem.F.slot_list_append PySem.F.type_list_append mt_append (pv 11) (pa_cons (pe_lock (pe_lc (own := [("j", 9), ("number", 10)]) (g := gTup K 2 (gCons (gName 9) (gCons (gName 10) (gNil)))) rfl sc_put_back.nd (pi_items (pv 12)) (blkOk_by (N := ["n", "work", "found", "i", "v", "pivot", "row", "column", "factor", "j", "number", "rows", "own"]) (sc := defScope s_put_back) (by decide +kernel)) (fun _ _ _ _ _ => (pg_tup rfl (pgs_cons (pg_name (i := 9) sc_put_back.nd rfl (.inl rfl)) (pgs_cons (pg_name (i := 10) sc_put_back.nd rfl (.inl rfl)) pgs_nil)))) (fun _ _ _ _ _ => pts_one (pt_cmpR (op_neDK hr.units) (pv 10) (pe_glob (v := .ref aNOUGHT) (by rfl) mNOUGHT rfl) (nomark _))) (fun _ _ _ _ _ => (pe_tup (pa_cons (pv 9) (pa_cons (pv 10) pa_nil)))))) pa_nil)))))
  (pss_one (ps_ret (pe_fn h_sheet_of hr pass0 (pa_cons (pv 0) (pa_cons (pv 11) pa_nil))))))))), ?_⟩
    repeat' (first
      | exact q
      | refine ⟨_, _, _, _, rfl, rfl, (by assumption), rfl, ?_⟩
      | refine ⟨_, _, _, _, true, rfl, .ty _, (by first | exact .base (.int _) | exact ty_tup (by assumption) | exact ty_lst (by assumption)), kit_ty (by decide +kernel), ?_⟩
      | refine ⟨_, _, _, _, false, rfl, .ty _, (by first | exact .base (.int _) | exact ty_tup (by assumption) | exact ty_lst (by assumption)), kit_ty (by decide +kernel), ?_⟩
      | refine ⟨_, _, rfl, .inr (by assumption), ?_⟩
      | refine ⟨_, _, rfl, .inl (by assumption), ?_⟩
      | refine ⟨_, _, rfl, (by assumption), rfl, ?_⟩
      | refine ⟨_, rfl, ?_⟩
      | refine ⟨_, _, rfl, rfl, ?_⟩
      | refine ⟨Nat.le_of_ble_eq_true rfl, fun p hp => ?_⟩
      | refine ⟨_, _, rfl, ?_⟩
      | refine ⟨rfl, ?_⟩
      | refine ⟨mul_ok4 (by assumption) (by assumption), ?_⟩
      | fail)
    have n12 := gr.2.1
    refine ⟨by omega, by omega, fun D hD => lc_fresh walk_range (fun i d H => ∃ kvs : List (Key × V), H d = some (HO.dK kvs) ∧ DR K H n false (fun _ => 0) kvs) (fun i d H H' s ⟨k, e, dr⟩ => ⟨k, s _ _ e, dr.mono s.tup⟩) (fun i d H acc acc' hne e ⟨k, e2, dr⟩ => ⟨k, by rw [upd_ne hne]; exact e2, dr.mono (.lst e)⟩) (fun i d H ⟨k, e, _⟩ => by rw [e]; exact fun z => nomatch z) hD (by simp; omega) (fun _ _ => True.intro) (fun i x H1 H2 Qy hi s1 yy k => ?_) (fun H1 ds s1 eD lds ndd hDd hds => ?_)⟩
    · obtain ⟨rfl, rfl⟩ := yy
      exact ⟨rfl, fun p hp => k _ _ (same_new hp) hp ⟨[], upd_same, DR.nil⟩⟩
    have len : ds.length = n := by rw [lds]; simp
    have L0 : LeftB false K H1 n (fun _ _ => 0) ds := ⟨len, ndd, fun i d e => (hds i d e).1⟩
    have mob1 := L0.mob
    have hDn : D ∉ ds := hDd
    have dsN : ∀ {H' : Hp}, Kp ds H1 H' → H' D = some (.lst (ds.map V.ref)) := fun k => k D _ hDd eD
    have sl : ∀ {H' : Hp}, Kp ds H1 H' → SqL K H' a ys := fun {H'} k => by
      have := s1.seq la
      rcases this with (h | ⟨o, h⟩) | h
      · exact .inl (.inl (k a _ (fun hm => by rcases mob1 a hm with ⟨_, z⟩ | ⟨_, z⟩; · rw [z] at h; cases h
                                              · obtain ⟨i, hi⟩ := List.getElem?_of_mem hm
                                                obtain ⟨kk, e, _⟩ := L0.at' i a hi
                                                rw [e] at h; cases h) h))
      · exact .inl (.inr ⟨o, k a _ (fun hm => by
          obtain ⟨i, hi⟩ := List.getElem?_of_mem hm
          obtain ⟨kk, e, _⟩ := L0.at' i a hi
          rw [e] at h; cases h) h⟩)
      · exact .inr h
    have lys : ys.length = ws.length := by rw [iys.length, List.length_map]
    refine ⟨_, rfl, a, rfl, ⟨_, sl .refl⟩, for_it (walk_list (xs := ys)) (fun k σ H' => ∃ x3 x4 x5 x6 x7 x8 x9 x10, σ = [some (.int n), some (.ref a), some (.ref D), x3, x4, x5, x6, x7, x8, x9, x10, none, none] ∧ Kp ds H1 H' ∧ LeftB false K H' n ((ws.take k).foldl addW (fun _ _ => 0)) ds)
      ⟨none, none, none, none, none, none, none, none, rfl, .refl, L0⟩ (fun k σ H' _ ⟨_, _, _, _, _, _, _, _, _, kp, _⟩ => sl kp) ?_ ?_⟩
    · rintro k x σ H2 H3 hk ⟨x3, x4, x5, x6, x7, x8, x9, x10, rfl, kp, Lk2⟩ ⟨rfl, ex⟩
      obtain ⟨wk, ewk, iw⟩ := imAll_atT iys (s1.tup.trans (kp.tup mob1)) ex
      obtain ⟨T1, pv, r, c, rfl, tt, ipv, ir, ic⟩ := w1_inv iw
      obtain ⟨cn, cb⟩ := ok.cl wk (List.mem_of_getElem? ewk)
      obtain ⟨jn, jb⟩ := ok.jl wk (List.mem_of_getElem? ewk)
      have sm := (ok.sm k wk ewk).sm
      generalize hG : (ws.take k).foldl addW (fun _ _ => 0) = G at Lk2 sm
      have lcl : (clW wk).length ≤ 12 := by have := nodup_le cn (fun j hj => by obtain ⟨p, hp, rfl⟩ := List.mem_map.mp hj; exact cb p hp); unfold plc at this; rw [List.length_map] at this; omega
      have ljl : (jlW wk).length ≤ 12 := by have := nodup_le jn (fun j hj => by obtain ⟨p, hp, rfl⟩ := List.mem_map.mp hj; exact jb p hp); unfold plc at this; rw [List.length_map] at this; omega
      refine ⟨_, _, rfl, tt, rfl, _, _, rfl, _, _, rfl, _, _, rfl, _, _, rfl, rfl, ?_⟩
      repeat' (first
      | exact q
      | refine ⟨_, _, _, _, rfl, rfl, (by assumption), rfl, ?_⟩
      | refine ⟨_, _, _, _, true, rfl, .ty _, (by first | exact .base (.int _) | exact ty_tup (by assumption) | exact ty_lst (by assumption)), kit_ty (by decide +kernel), ?_⟩
      | refine ⟨_, _, _, _, false, rfl, .ty _, (by first | exact .base (.int _) | exact ty_tup (by assumption) | exact ty_lst (by assumption)), kit_ty (by decide +kernel), ?_⟩
      | refine ⟨_, _, rfl, .inr (by assumption), ?_⟩
      | refine ⟨_, _, rfl, .inl (by assumption), ?_⟩
      | refine ⟨_, _, rfl, (by assumption), rfl, ?_⟩
      | refine ⟨_, rfl, ?_⟩
      | refine ⟨_, _, rfl, rfl, ?_⟩
      | refine ⟨Nat.le_of_ble_eq_true rfl, fun p hp => ?_⟩
      | refine ⟨_, _, rfl, ?_⟩
      | refine ⟨rfl, ?_⟩
      | refine ⟨mul_ok4 (by assumption) (by assumption), ?_⟩
      | fail)
      rename_i p0 hp0
      have kp3 := kp
      have t3 := kp.tup mob1
      have iO : Im K H3 (.ref aONE) (numD 1) := im_one sONE H3
      have s3p := (same_new (o := .tup [.int (wk.1 : Nat), .ref aONE]) hp0).trans (same_new (o := .tup [.ref p0]) hp)
      refine cat_row (p := (wk.1, 1)) (r := wk.2.2.2) (new_row1 hp0 hp iO) (ic.mono s3p.tup) (by have := lcl; unfold clW at this; simp at this; omega) (fun c1 H4 s4 icl => ?_)
      have s34 : Same H3 H4 := s3p.trans s4
      have L4 := Lk2.mono s34
      have mob4 := L4.mob
      have kp4 : Kp ds H1 H4 := kp.trans s34.kp
      have ir4 := ir.mono s34.tup
      have ipv4 := ipv.mono s34.tup
      obtain ⟨_, zs, e, tcl, icl⟩ := row_inv icl
      cases e
      have lzs : zs.length = (clW wk).length := by rw [icl.length, List.length_map]; rfl
      refine ⟨c1, rfl, ⟨_, tcl⟩, for_it (walk_tup (xs := zs)) (fun b σ H' => ∃ x3 x8 x9 x10, σ = [some (.int n), some (.ref a), some (.ref D), x3, some (.int (wk.1 : Nat)), some pv, some (.ref r), some (.ref c), x8, x9, x10, none, none] ∧ Kp ds H4 H' ∧ LeftB false K H' n (fun i j => G i j + rowF ((clW wk).take b) i * rowF (jlW wk) j) ds)
        ⟨_, _, _, _, rfl, .refl, L4.congr fun i j _ => by simp [rowF_nil]; grind⟩ (fun b σ H' _ ⟨_, _, _, _, _, k, _⟩ => k.tt mob4 tcl) ?_ ?_⟩
      · rintro b x σ H5 H6 hb ⟨y3, y8, y9, y10, rfl, k5, L5⟩ ⟨rfl, ex5⟩
        obtain ⟨pc, epc, ipc⟩ := imAll_atT icl (k5.tup mob4) ex5
        obtain ⟨T2, cf, rfl, tt2, icf⟩ := part_inv ipc
        have hpc : pc ∈ clW wk := List.mem_of_getElem? epc
        have ts := fun j => take_succ_row cn epc j
        refine ⟨_, _, rfl, tt2, rfl, _, _, rfl, _, _, rfl, rfl, ?_⟩
        repeat' (first
      | exact q
      | refine ⟨_, _, _, _, rfl, rfl, (by assumption), rfl, ?_⟩
      | refine ⟨_, _, _, _, true, rfl, .ty _, (by first | exact .base (.int _) | exact ty_tup (by assumption) | exact ty_lst (by assumption)), kit_ty (by decide +kernel), ?_⟩
      | refine ⟨_, _, _, _, false, rfl, .ty _, (by first | exact .base (.int _) | exact ty_tup (by assumption) | exact ty_lst (by assumption)), kit_ty (by decide +kernel), ?_⟩
      | refine ⟨_, _, rfl, .inr (by assumption), ?_⟩
      | refine ⟨_, _, rfl, .inl (by assumption), ?_⟩
      | refine ⟨_, _, rfl, (by assumption), rfl, ?_⟩
      | refine ⟨_, rfl, ?_⟩
      | refine ⟨_, _, rfl, rfl, ?_⟩
      | refine ⟨Nat.le_of_ble_eq_true rfl, fun p hp => ?_⟩
      | refine ⟨_, _, rfl, ?_⟩
      | refine ⟨rfl, ?_⟩
      | refine ⟨mul_ok4 (by assumption) (by assumption), ?_⟩
      | fail)
        rename_i p3 hp3
        have t5 := k5.tup mob4
        have ipv5 := ipv4.mono t5
        have s6p := (same_new (o := .tup [.int (wk.1 : Nat), pv]) hp3).trans (same_new (o := .tup [.ref p3]) hp)
        refine cat_row (p := (wk.1, wk.2.1)) (r := wk.2.2.1) (new_row1 hp3 hp ipv5) ((ir4.mono t5).mono s6p.tup) (by have := ljl; unfold jlW at this; simp at this; omega) (fun c2 H7 s7 ijl => ?_)
        have s67 : Same H6 H7 := s6p.trans s7
        have L7 := L5.mono s67
        have mob7 := L7.mob
        have icf7 := icf.mono s67.tup
        have kp7 : Kp ds H1 H7 := kp4.trans (k5.trans s67.kp)
        obtain ⟨_, us, e, tjl, ijl⟩ := row_inv ijl
        cases e
        have lus : us.length = (jlW wk).length := by rw [ijl.length, List.length_map]; rfl
        refine ⟨c2, rfl, ⟨_, tjl⟩, for_it (walk_tup (xs := us)) (fun d σ H' => ∃ x9 x10, σ = [some (.int n), some (.ref a), some (.ref D), some (.int (pc.1 : Nat)), some (.int (wk.1 : Nat)), some pv, some (.ref r), some (.ref c), some cf, x9, x10, none, none] ∧ Kp ds H7 H' ∧
            LeftB false K H' n (fun i j => G i j + rowF ((clW wk).take b) i * rowF (jlW wk) j + (if i = pc.1 then pc.2 * rowF ((jlW wk).take d) j else 0)) ds)
          ⟨_, _, rfl, .refl, L7.congr fun i j _ => by simp [rowF_nil]; grind⟩ (fun d σ H' _ ⟨_, _, _, k, _⟩ => k.tt mob7 tjl) ?_ ?_⟩
        · rintro d x σ H8 H9 hd ⟨z9, z10, rfl, k8, L8⟩ ⟨rfl, ex8⟩
          obtain ⟨pj, epj, ipj⟩ := imAll_atT ijl (k8.tup mob7) ex8
          obtain ⟨T3, cg, rfl, tt3, icg⟩ := part_inv ipj
          have hpj : pj ∈ jlW wk := List.mem_of_getElem? epj
          have us' := fun j => take_succ_row jn epj j
          obtain ⟨m1, m2, m3, m4, m5⟩ := sm pc hpc pj hpj
          have hcn := cb pc hpc
          have hjn := jb pj hpj
          obtain ⟨di, edi⟩ : ∃ d, ds[pc.1]? = some d := ⟨ds[pc.1]'(by rw [len]; exact hcn), List.getElem?_eq_getElem _⟩
          obtain ⟨kvi, eki, dri⟩ := L8.at' pc.1 di edi
          have hval : G pc.1 pj.1 + rowF ((clW wk).take b) pc.1 * rowF (jlW wk) pj.1 + (if pc.1 = pc.1 then pc.2 * rowF ((jlW wk).take d) pj.1 else 0) = G pc.1 pj.1 := by
            rw [if_pos rfl, (ts 0).2, (us' 0).2]; grind
          have iold : Im K H9 ((valV kvi (.inl (pj.1 : Int))).getD (.ref aNOUGHT)) (numD (G pc.1 pj.1)) := by
            have this : Im K H9 ((valV kvi (.inl (pj.1 : Int))).getD (.ref aNOUGHT)) (numD (G pc.1 pj.1 + rowF ((clW wk).take b) pc.1 * rowF (jlW wk) pj.1 + (if pc.1 = pc.1 then pc.2 * rowF ((jlW wk).take d) pj.1 else 0))) := dri.get hjn (im_nought sNOUGHT H9)
            rw [hval] at this
            exact this
          have kp8 : Kp ds H1 H9 := kp7.trans k8
          have eD8 := dsN kp8
          have icf8 := icf7.mono (k8.tup mob7)
          refine ⟨_, _, rfl, tt3, rfl, _, _, rfl, _, _, rfl, rfl, ?_⟩
          refine ⟨_, rfl, _, rfl, D, _, _, _, rfl, rfl, SqL.of eD8, ref_at edi, di, rfl, .inl ⟨kvi, .inl eki⟩, _, rfl, _, .inl ⟨kvi, .inl (pj.1 : Int), .inl eki, rfl, rfl⟩, ?_⟩
          refine ⟨_, rfl, _, rfl, _, _, pc.2, pj.2, rfl, icf8, icg, m2, m3, True.intro, m4, fun v2 H10 e10 i10 => ?_⟩
          refine ⟨_, _, G pc.1 pj.1, pc.2 * pj.2, rfl, iold.mono e10.tup, i10, m1, m4, True.intro, m5, fun v4 H11 e11 i11 => ?_⟩
          have e911 := e10.trans e11
          have eki11 := e911 _ _ eki
          refine ⟨_, rfl, _, rfl, D, _, _, _, rfl, rfl, SqL.of (e911 _ _ eD8), ref_at edi, _, rfl, di, _, rfl, DPut.k (k := .inl (pj.1 : Int)) eki11 (small1000 (by have := dri.len; omega)), ?_⟩
          have tm : Tup H11 (L2.upd H11 di (.dK (putK kvi (.inl (pj.1 : Int)) v4))) := .dk eki11
          refine ⟨_, _, rfl, (k8.trans e911.kp).upd (List.mem_of_getElem? edi), (L8.mono e911).upd edi (Kp.refl.upd (by simp)) upd_same ((((dri.mono e911.tup).put hjn i11 (fun z => nomatch z)).mono tm).congr fun j hj => ?_) (fun i' hi' j hj => ?_)⟩
          · show (if j = pj.1 then G pc.1 pj.1 + pc.2 * pj.2 else G pc.1 j + rowF ((clW wk).take b) pc.1 * rowF (jlW wk) j + (if pc.1 = pc.1 then pc.2 * rowF ((jlW wk).take d) j else 0)) = G pc.1 j + rowF ((clW wk).take b) pc.1 * rowF (jlW wk) j + (if pc.1 = pc.1 then pc.2 * rowF ((jlW wk).take (d + 1)) j else 0)
            rw [if_pos rfl, if_pos rfl, (us' j).1]
            by_cases e : j = pj.1
            · rw [if_pos e, if_pos e, (ts 0).2, e]; grind
            · rw [if_neg e, if_neg e]
          · simp only [if_neg hi']
        · rintro σ H8 ⟨z9, z10, rfl, k8, L8⟩
          refine ⟨_, _, _, _, rfl, k5.trans (s67.kp.trans k8), L8.congr fun i j _ => ?_⟩
          rw [List.take_of_length_le (l := jlW wk) (by omega), (ts i).1]
          by_cases e : i = pc.1
          · rw [if_pos e, if_pos e, e, (ts 0).2]; grind
          · rw [if_neg e, if_neg e]; grind
      · rintro σ H5 ⟨y3, y8, y9, y10, rfl, k5, L5⟩
        refine ⟨_, _, _, _, _, _, _, _, rfl, kp4.trans k5, L5.congr fun i j _ => ?_⟩
        rw [List.take_of_length_le (l := clW wk) (by omega), List.take_succ, ewk, List.foldl_append, hG]
        rfl
    · rintro σ H2 ⟨x3, x4, x5, x6, x7, x8, x9, x10, rfl, kp, Lk2⟩
      rw [List.take_of_length_le (by omega)] at Lk2
      have mob2 := Lk2.mob
      repeat' (first
      | exact q
      | refine ⟨_, _, _, _, rfl, rfl, (by assumption), rfl, ?_⟩
      | refine ⟨_, _, _, _, true, rfl, .ty _, (by first | exact .base (.int _) | exact ty_tup (by assumption) | exact ty_lst (by assumption)), kit_ty (by decide +kernel), ?_⟩
      | refine ⟨_, _, _, _, false, rfl, .ty _, (by first | exact .base (.int _) | exact ty_tup (by assumption) | exact ty_lst (by assumption)), kit_ty (by decide +kernel), ?_⟩
      | refine ⟨_, _, rfl, .inr (by assumption), ?_⟩
      | refine ⟨_, _, rfl, .inl (by assumption), ?_⟩
      | refine ⟨_, _, rfl, (by assumption), rfl, ?_⟩
      | refine ⟨_, rfl, ?_⟩
      | refine ⟨_, _, rfl, rfl, ?_⟩
      | refine ⟨Nat.le_of_ble_eq_true rfl, fun p hp => ?_⟩
      | refine ⟨_, _, rfl, ?_⟩
      | refine ⟨rfl, ?_⟩
      | refine ⟨mul_ok4 (by assumption) (by assumption), ?_⟩
      | fail)
      revert p
      intro R hR
      have tR := same_new (o := .lst []) hR
      have eD2 : H2 D = some (.lst (ds.map V.ref)) := dsN kp
      have RD : D ≠ R := fun z => by rw [z, hR] at eD2; cases eD2
      have ldn : (ds.map V.ref).length = n := by rw [List.length_map, len]
      refine ⟨⟨_, SqL.of (tR _ _ eD2)⟩, for_it (walk_list (xs := ds.map V.ref)) (fun k σ H' => ∃ x12, σ = [some (.int n), some (.ref a), some (.ref D), x3, x4, x5, x6, x7, x8, x9, x10, some (.ref R), x12] ∧ Same H2 H' ∧ ∃ zs rs, H' R = some (.lst zs) ∧ LsR K H' R zs rs ∧ rs.length = k ∧ ∀ (i : Nat) (r s : List Part), rs[i]? = some r → rows[i]? = some s → r.Perm s)
        ⟨none, rfl, tR, [], [], upd_same, ⟨rfl, fun i x r e => by simp at e⟩, rfl, fun i r s e => by simp at e⟩ (fun k σ H' _ ⟨_, _, s', _⟩ => SqL.of (s' _ _ eD2)) ?_ ?_⟩
      · rintro k x σ H3 H4 hk ⟨x12, rfl, s3, zs, rs, eR, lsr, lrs, hpm⟩ ⟨rfl, ex⟩
        rw [List.getElem?_map] at ex
        obtain ⟨d, ed, rfl⟩ := Option.map_eq_some_iff.mp ex
        have hkn : k < n := by rw [← len]; exact (List.getElem?_eq_some_iff.mp ed).1
        obtain ⟨kvs, ek2, dr2⟩ := Lk2.at' k d ed
        have ek4 := s3 _ _ ek2
        have dr4 := dr2.mono s3.tup
        have dR : d ≠ R := fun z => by rw [z, hR] at ek2; cases ek2
        generalize hf : ws.foldl addW (fun _ _ => 0) k = f at dr4
        refine ⟨_, rfl, .inl ⟨rfl, _, SqL.of eR⟩, d, .dK kvs, ek4, True.intro, fun od => ?_⟩
        have tl : Tup H4 (L2.upd H4 d (.frz od (.dK kvs))) := .dk ek4
        have drl := dr4.mono tl
        obtain ⟨pn, pb, pf, pa⟩ := dr_pl drl
        have lpl : (plK kvs).length = kvs.length := by unfold plK; rw [List.length_map]
        have hln := drl.len
        have RH : ∀ b o, b ≠ d → H4 b = some o → (L2.upd H4 d (.frz od (.dK kvs))) b = some o := fun b o hb e => by rw [upd_ne hb]; exact e
        refine ⟨_, rfl, d, od, kvs, rfl, upd_same, fun D2 hD2 => lc_f (walk_items (d := d) (o := od) (kvs := kvs)) (fun k => decide (f ((plK kvs).getD k 0) ≠ 0)) (PIm K fun k => partD ((plK kvs).getD k 0, f ((plK kvs).getD k 0))) PIm.m1 PIm.m2 hD2 (by omega) (fun H' s => s _ _ upd_same) (fun i x H5 H6 Qy Qn hi s5 yy ky kn => ?_) (fun H5 hacc => ?_)⟩
        · obtain ⟨T1, y0, y1, rfl, hT, rfl, e0, e1⟩ := yy
          obtain ⟨⟨key, v⟩, ekv, e0⟩ := Option.map_eq_some_iff.mp e0
          have e1 : kvs[i]?.map Prod.snd = some y1 := e1
          rw [ekv] at e1
          cases e0
          cases e1
          obtain ⟨j, ej, rfl, hj, iv⟩ := pa i key v ekv
          rw [getD_of ej] at ky kn
          have s6 := s5.trans (same_new (o := .tup [kV (.inl (j : Int)), v]) hT)
          have iv6 := iv.mono s6.tup
          refine ⟨_, _, rfl, TT.of upd_same, rfl, _, _, rfl, _, _, rfl, rfl, rfl, ?_⟩
          refine ⟨_, rfl, _, _, iv6.dp, (im_nought sNOUGHT _).dp, (shp_num _).shaped (by decide), (shp_num _).shaped (by decide), _, rfl, ?_⟩
          rw [eqv_num]
          have t6 := same_new (o := .tup [kV (.inl (j : Int)), v]) hT
          by_cases hz : f j = 0
          · rw [decide_eq_true hz]
            exact kn (by simp [hz]) _ t6
          · rw [decide_eq_false hz]
            refine ⟨_, rfl, _, rfl, Nat.le_of_ble_eq_true rfl, fun p hp => ky (by simp [hz]) _ _ (t6.trans (same_new hp)) ?_⟩
            show Im K _ (.ref p) (partD ((plK kvs).getD i 0, f ((plK kvs).getD i 0)))
            rw [getD_of ej]
            exact .tup (.of upd_same) (.cons (.int _) (.cons (iv6.mono (same_new hp).tup) .nil))
        · obtain ⟨ys2, s5, eD2', iy⟩ := hacc.im
          rw [show kvs.length = (plK kvs).length from lpl.symm, parts_rows] at iy
          have D2R : D2 ≠ R := fun z => by
            have := RH R _ (Ne.symm dR) eR
            rw [← z, hD2] at this; cases this
          have D2d : D2 ≠ d := fun z => by rw [z, upd_same] at hD2; cases hD2
          have e5d : H5 d = some (.frz od (.dK kvs)) := s5 _ _ upd_same
          refine ⟨e5d, ?_⟩
          have tb : Tup H5 (L2.upd H5 d (.dK kvs)) := .upd e5d (fun _ q => nomatch q) (fun _ _ q => by cases q)
          have eR6 : (L2.upd H5 d (.dK kvs)) R = some (.lst zs) := by rw [upd_ne (Ne.symm dR)]; exact s5 _ _ (RH R _ (Ne.symm dR) eR)
          have tR6 : Tup (L2.upd H5 d (.dK kvs)) (L2.upd (L2.upd H5 d (.dK kvs)) R (.lst (zs ++ [.ref D2]))) := .lst eR6
          refine ⟨_, _, _, rfl, rfl, eR6, small1000 (by rw [lsr.1]; omega), ?_⟩
          have back : ∀ b o, b ≠ R → H4 b = some o → (L2.upd (L2.upd H5 d (.dK kvs)) R (.lst (zs ++ [.ref D2]))) b = some o := fun b o hb e => by
            rw [upd_ne hb]
            by_cases hbd : b = d
            · rw [hbd, upd_same, ← ek4, ← e, hbd]
            · rw [upd_ne hbd]; exact s5 _ _ (RH b o hbd e)
          refine ⟨_, rfl, fun b o e => back b o (fun z => by rw [z, hR] at e; cases e) (s3 b o e), _, rs ++ [parts (plK kvs) f], upd_same, ?_, by simp [lrs], fun i r s e1 e2 => ?_⟩
          · refine lsr.snoc (fun c zs' hc e => back c _ hc e) (((tl.trans s5.tup).trans tb).trans tR6) D2R ?_ ((iy.mono tb).mono tR6)
            rw [upd_ne D2R, upd_ne D2d]; exact eD2'
          · by_cases hi : i < rs.length
            · rw [List.getElem?_append_left hi] at e1
              exact hpm i r s e1 e2
            · have : i = k := by
                have := (List.getElem?_eq_some_iff.mp e1).1
                simp at this
                omega
              subst this
              rw [← lrs, List.getElem?_append_right (Nat.le_refl _)] at e1
              simp at e1
              subst e1
              refine perm_row (gr.2.2 s (List.mem_of_getElem? e2)) pn pb pf fun j hj => ?_
              rw [← hf, hm i hkn j hj]
              unfold matOf
              rw [List.getD_eq_getElem?_getD, e2]; rfl
      · rintro σ H3 ⟨x12, rfl, s3, zs, rs, eR, lsr, lrs, hpm⟩
        rw [ldn] at lrs
        have grl := gr.1
        refine ⟨_, rfl, _, rfl, n, R, zs, rs, rows, rfl, SqL.of eR, ⟨lsr.1, fun i x r e1 e2 => ?_⟩, by omega, gr, hpm, fun v H4 s4 i4 => q v H4 (fun b o e => ?_) i4⟩
        · obtain ⟨b, ys, h1, _, h3, h4⟩ := lsr.2 i x r e1 e2
          exact ⟨b, ys, h1, SqL.of h3, h4⟩
        · have hb : b ∉ ds := fun hb => by
            obtain ⟨i, hi⟩ := List.getElem?_of_mem hb
            rw [(hds i b hi).2] at e; cases e
          exact s4 _ _ (s3 _ _ (kp b o hb (s1 b o e)))
end
end FW
end

/-! ## W7 -/
section
set_option Elab.async false
set_option linter.all false
set_option maxRecDepth 100000
set_option maxHeartbeats 4000000
namespace FW
open PySem PySem.Spec PyProof.Rows L2 FF
section
variable {P : Program} {w : World} {K : PySem.W.Frag} {mg : Str → Option Value} {base : Heap}
structure FwOk (n : Nat) (F : Nat → Rat) (w : W1) : Prop where
  v : w.1 < n
  nd : (plc w.2.2.2).Nodup
  b : ∀ p ∈ w.2.2.2, p.1 < n ∧ p.1 ≠ w.1
  sm : ∀ p ∈ w.2.2.2, Sm (F p.1) ∧ Sm p.2 ∧ Sm (F w.1) ∧ Sm (p.2 * F w.1) ∧ Sm (F p.1 - p.2 * F w.1)
structure BkOk (n : Nat) (F : Nat → Rat) (w : W1) : Prop where
  v : w.1 < n
  b : ∀ p ∈ w.2.2.1, p.1 < n ∧ p.1 ≠ w.1
  sm : ∀ d p, w.2.2.1[d]? = some p → Sm (F w.1 - psum F (w.2.2.1.take d)) ∧ Sm p.2 ∧ Sm (F p.1) ∧ Sm (p.2 * F p.1) ∧ Sm (F w.1 - psum F (w.2.2.1.take (d + 1)))
  sm2 : Sm (F w.1 - psum F w.2.2.1) ∧ Sm w.2.1 ∧ w.2.1 ≠ 0 ∧ Sm ((F w.1 - psum F w.2.2.1) / w.2.1)
structure SolOk (n : Nat) (F : Nat → Rat) (ws : List W1) : Prop where
  f : ∀ k w, ws[k]? = some w → FwOk n ((ws.take k).foldl fwW F) w
  b : ∀ k w, ws.reverse[k]? = some w → BkOk n ((ws.reverse.take k).foldl bkW (ws.foldl fwW F)) w
def solW (F : Nat → Rat) (ws : List W1) : Nat → Rat := ws.reverse.foldl bkW (ws.foldl fwW F)
def FL (K : PySem.W.Frag) (H : Hp) (D : Addr) (n : Nat) (F : Nat → Rat) : Prop := ∃ xs : List V, H D = some (.lst xs) ∧ xs.length = n ∧ ∀ (i : Nat) (x : V), xs[i]? = some x → Im K H x (numD (F i))
theorem FL.congr {H : Hp} {D : Addr} {n : Nat} {F G : Nat → Rat} (h : FL K H D n F) (e : ∀ i < n, F i = G i) : FL K H D n G := by
  obtain ⟨xs, e1, l, h⟩ := h
  exact ⟨xs, e1, l, fun i x ex => by rw [← e i (by rw [← l]; exact (List.getElem?_eq_some_iff.mp ex).1)]; exact h i x ex⟩
theorem FL.mono {H H' : Hp} {D : Addr} {n : Nat} {F : Nat → Rat} (h : FL K H D n F) (s : Same H H') : FL K H' D n F := by
  obtain ⟨xs, e1, l, h⟩ := h
  exact ⟨xs, s _ _ e1, l, fun i x ex => (h i x ex).mono s.tup⟩
theorem FL.get {H : Hp} {D : Addr} {n : Nat} {F : Nat → Rat} (h : FL K H D n F) {i : Nat} (hi : i < n) : ∃ xs x, H D = some (.lst xs) ∧ atI xs ((i : Nat) : Int) = some x ∧ Im K H x (numD (F i)) := by
  obtain ⟨xs, e1, l, h⟩ := h
  have e := List.getElem?_eq_getElem (show i < xs.length by omega)
  exact ⟨xs, _, e1, atI_nat e, h i _ e⟩
theorem FL.set {H : Hp} {D : Addr} {n : Nat} {F : Nat → Rat} (h : FL K H D n F) {i : Nat} (hi : i < n) {v : V} {q : Rat} (iv : Im K H v (numD q)) : ∃ xs, H D = some (.lst xs) ∧ ixN xs.length ((i : Nat) : Int) = some i ∧ FL K (L2.upd H D (.lst (xs.set i v))) D n (fun k => if k = i then q else F k) := by
  obtain ⟨xs, e1, l, h⟩ := h
  refine ⟨xs, e1, ?_, xs.set i v, upd_same, by simp [l], fun k x ex => ?_⟩
  · unfold ixN
    rw [if_pos (by omega), if_pos (by omega)]; rfl
  · have tm : Tup H (L2.upd H D (.lst (xs.set i v))) := .lst e1
    by_cases hk : k = i
    · subst hk
      rw [List.getElem?_set_self (by omega)] at ex
      cases ex
      simp only [if_true]
      exact iv.mono tm
    · rw [List.getElem?_set_ne (Ne.symm hk)] at ex
      simp only [hk, if_false]
      exact (h k x ex).mono tm
def sp_solved (K : PySem.W.Frag) : Sp := fun vs H Q _ => ∃ (a b : Addr) (n : Nat) (ys rs : List V) (ws : List W1) (F : Nat → Rat), vs = [.int n, .ref a, .ref b] ∧ SqL K H a ys ∧ ImAll K H ys (ws.map w1D) ∧ n ≤ 12 ∧ SqL K H b rs ∧ rs.length = n ∧ (∀ (i : Nat) (x : V), rs[i]? = some x → Im K H x (numD (F i))) ∧
  SolOk n F ws ∧ (∀ p H', Same H H' → H p = none → FL K H' p n (solW F ws) → Q (.ref p) H')
abbrev s_solved : Stmt := topS 38
theorem sc_solved : FnScope ["n", "work", "right", "found", "i", "v", "pivot", "row", "column", "factor", "j", "number"] ["n", "work", "right"] (defScope s_solved) := ⟨rfl, rfl, rfl, by decide +kernel, rfl, by decide +kernel, by decide +kernel⟩
theorem fn_solved (T : Tops K mg) : Fn P w K mg base CX0 8 "solved" ["n", "work", "right"] (sp_solved K) := by
  have h_over : Fn P w K mg base CX0 7 "over" _ _ := (fn_over T).mono (by decide)
  have h_minus : Fn P w K mg base CX0 7 "minus" _ _ := (fn_minus T).mono (by decide)
  have h_times : Fn P w K mg base CX0 7 "times" _ _ := (fn_times T).mono (by decide)
  refine T.d_solved.fn sc_solved (fun _ _ _ _ _ _ us hl => match us, hl with | [_, _, _], _ => rfl) (fun vs H Q E h => ?_) (fun f cdv A outer s H vs Q E hr h => ?_)
  · obtain ⟨a, b, n, ys, rs, ws, F, rfl, _⟩ := h; rfl
  · obtain ⟨a, b, n, ys, rs, ws, F, rfl, la, iys, n12, lb, lrs, irs, ok, q⟩ := h
    refine ⟨_, (pss_cons (ps_setLc (i := 3) (own := [("i", 4)]) (g := gName 4) (tt := tYes) rfl sc_solved.nd rfl rfl (sw_true rfl rfl rfl (by decide +kernel)) (pi_range1 (by rfl) T.B.range (pa_cons (pv 0) pa_nil)) (blkOk_by (N := ["n", "work", "right", "found", "i", "v", "pivot", "row", "column", "factor", "j", "number"]) (sc := defScope s_solved) (by decide +kernel)) (fun _ _ _ _ _ => (pg_name (i := 4) sc_solved.nd rfl (.inl rfl))) (fun _ _ _ _ _ => pts_nil) (fun _ _ _ _ _ => (pe_ix ix_listK (pv 2) (pv 4) (fun _ _ => rfl))))
  (pss_cons (ps_for PassesOwn.never rfl (pi_list (pv 1)) (pg_tup rfl (pgs_cons (pg_name (i := 5) sc_solved.nd rfl (.inl rfl)) (pgs_cons (pg_name (i := 6) sc_solved.nd rfl (.inl rfl)) (pgs_cons (pg_name (i := 7) sc_solved.nd rfl (.inl rfl)) (pgs_cons (pg_name (i := 8) sc_solved.nd rfl (.inl rfl)) pgs_nil)))))
  (pss_one (ps_for PassesOwn.never rfl (pi_tup (pv 8)) (pg_tup rfl (pgs_cons (pg_name (i := 4) sc_solved.nd rfl (.inl rfl)) (pgs_cons (pg_name (i := 9) sc_solved.nd rfl (.inl rfl)) pgs_nil)))
  (pss_one (ps_asg (pe_fn h_minus hr pass0 (pa_cons (pe_ix ix_listK (pv 3) (pv 4) (fun _ _ => rfl)) (pa_cons (pe_fn h_times hr pass0 (pa_cons (pv 9) (pa_cons (pe_ix ix_listK (pv 3) (pv 5) (fun _ _ => rfl)) pa_nil))) pa_nil))) (pg_sub (pv 3) (pv 4) set_list))))))
  (pss_cons (ps_for PassesOwn.never rfl (pi_reversed (by rfl) T.B.reversed (pa_cons (pv 1) pa_nil)) (pg_tup rfl (pgs_cons (pg_name (i := 5) sc_solved.nd rfl (.inl rfl)) (pgs_cons (pg_name (i := 6) sc_solved.nd rfl (.inl rfl)) (pgs_cons (pg_name (i := 7) sc_solved.nd rfl (.inl rfl)) (pgs_cons (pg_name (i := 8) sc_solved.nd rfl (.inl rfl)) pgs_nil)))))
  (pss_cons (ps_for PassesOwn.never rfl (pi_tup (pv 7)) (pg_tup rfl (pgs_cons (pg_name (i := 10) sc_solved.nd rfl (.inl rfl)) (pgs_cons (pg_name (i := 11) sc_solved.nd rfl (.inl rfl)) pgs_nil)))
  (pss_one (ps_asg (pe_fn h_minus hr pass0 (pa_cons (pe_ix ix_listK (pv 3) (pv 5) (fun _ _ => rfl)) (pa_cons (pe_fn h_times hr pass0 (pa_cons (pv 11) (pa_cons (pe_ix ix_listK (pv 3) (pv 10) (fun _ _ => rfl)) pa_nil))) pa_nil))) (pg_sub (pv 3) (pv 5) set_list))))
  (pss_one (ps_asg (pe_fn h_over hr pass0 (pa_cons (pe_ix ix_listK (pv 3) (pv 5) (fun _ _ => rfl)) (pa_cons (pv 6) pa_nil))) (pg_sub (pv 3) (pv 5) set_list)))))
  (pss_one (ps_ret (pv 3)))))), ?_⟩
    repeat' (first
      | exact q
      | refine ⟨_, _, _, _, rfl, rfl, (by assumption), rfl, ?_⟩
      | refine ⟨_, _, _, _, true, rfl, .ty _, (by first | exact .base (.int _) | exact ty_tup (by assumption) | exact ty_lst (by assumption)), kit_ty (by decide +kernel), ?_⟩
      | refine ⟨_, _, _, _, false, rfl, .ty _, (by first | exact .base (.int _) | exact ty_tup (by assumption) | exact ty_lst (by assumption)), kit_ty (by decide +kernel), ?_⟩
      | refine ⟨_, _, rfl, .inr (by assumption), ?_⟩
      | refine ⟨_, _, rfl, .inl (by assumption), ?_⟩
      | refine ⟨_, _, rfl, (by assumption), rfl, ?_⟩
      | refine ⟨_, rfl, ?_⟩
      | refine ⟨_, _, rfl, rfl, ?_⟩
      | refine ⟨Nat.le_of_ble_eq_true rfl, fun p hp => ?_⟩
      | refine ⟨_, _, rfl, ?_⟩
      | refine ⟨rfl, ?_⟩
      | refine ⟨mul_ok4 (by assumption) (by assumption), ?_⟩
      | fail)
    have lys : ys.length = ws.length := by rw [iys.length, List.length_map]
    refine ⟨by omega, by omega, fun D hD => lc_a walk_range (PIm K fun i => numD (F i)) PIm.m1 PIm.m2 hD (by simp; omega) (fun _ _ => True.intro) (fun i x H1 H2 Qy hi s1 yy k => ?_) (fun H1 hacc => ?_)⟩
    · obtain ⟨rfl, rfl⟩ := yy
      have hi' : i < rs.length := by simp at hi; omega
      have ei := List.getElem?_eq_getElem hi'
      exact ⟨rfl, _, rfl, _, rfl, b, rs, _, _, rfl, rfl, s1.seq lb, by rw [show (0 : Int) + (i : Nat) = ((i : Nat) : Int) by omega]; exact atI_nat ei, k _ _ (Same.refl _) ((irs i _ ei).mono s1.tup)⟩
    obtain ⟨xs0, s1, eD, ixs0⟩ := hacc.im
    have FL0 : FL K H1 D n F := ⟨xs0, eD, by rw [ixs0.length]; simp, fun i x ex => by
      obtain ⟨d, ed, idd⟩ := ixs0.got ex
      rw [List.getElem?_map] at ed
      obtain ⟨j, ej, rfl⟩ := Option.map_eq_some_iff.mp ed
      have := List.getElem?_eq_some_iff.mp ej
      obtain ⟨_, e⟩ := this
      rw [List.getElem_range] at e
      rw [← e] at idd
      exact idd⟩
    refine ⟨_, rfl, a, rfl, ⟨_, s1.seq la⟩, for_it (walk_list (xs := ys)) (fun k σ H' => ∃ x4 x5 x6 x7 x8 x9, σ = [some (.int n), some (.ref a), some (.ref b), some (.ref D), x4, x5, x6, x7, x8, x9, none, none] ∧ Same H H' ∧ FL K H' D n ((ws.take k).foldl fwW F))
      ⟨none, none, none, none, none, none, rfl, s1, FL0⟩ (fun k σ H' _ ⟨_, _, _, _, _, _, _, s', _⟩ => s'.seq la) ?_ ?_⟩
    · rintro k x σ H2 H3 hk ⟨x4, x5, x6, x7, x8, x9, rfl, s2, FL2⟩ ⟨rfl, ex⟩
      obtain ⟨wk, ewk, iw⟩ := imAll_at iys s2 ex
      obtain ⟨T1, pv, r, c, rfl, tt, ipv, ir, ic⟩ := w1_inv iw
      have o1 := ok.f k wk ewk
      generalize hG : (ws.take k).foldl fwW F = G at FL2 o1
      obtain ⟨_, zs, e, tcl, icl⟩ := row_inv ic
      cases e
      have lzs : zs.length = wk.2.2.2.length := by rw [icl.length, List.length_map]
      have l12 : wk.2.2.2.length ≤ 12 := by have := nodup_le o1.nd (fun j hj => by obtain ⟨p, hp, rfl⟩ := List.mem_map.mp hj; exact (o1.b p hp).1); unfold plc at this; rw [List.length_map] at this; omega
      refine ⟨_, _, rfl, tt, rfl, _, _, rfl, _, _, rfl, _, _, rfl, _, _, rfl, rfl, ?_⟩
      refine ⟨_, rfl, c, rfl, ⟨_, tcl⟩, for_it (walk_tup (xs := zs)) (fun d σ H' => ∃ x4 x9, σ = [some (.int n), some (.ref a), some (.ref b), some (.ref D), x4, some (.int (wk.1 : Nat)), some pv, some (.ref r), some (.ref c), x9, none, none] ∧ Kp [D] H3 H' ∧ FL K H' D n (fun i => G i - rowF (wk.2.2.2.take d) i * G wk.1))
        ⟨_, _, rfl, .refl, FL2.congr fun i _ => by simp [rowF_nil]; grind⟩ (fun d σ H' _ ⟨_, _, _, kk, _⟩ => ?_) ?_ ?_⟩
      · obtain ⟨xs, e1, _⟩ := FL2
        exact kk.tt (fun b hb => by rw [List.mem_singleton.mp hb]; exact .inr ⟨xs, e1⟩) tcl
      · rintro d x σ H4 H5 hd ⟨y4, y9, rfl, k4, FL4⟩ ⟨rfl, ex4⟩
        have mob3 : ∀ b ∈ [D], Mob H3 b := fun b hb => by
          obtain ⟨xs, e1, _⟩ := FL2
          rw [List.mem_singleton.mp hb]; exact .inr ⟨xs, e1⟩
        obtain ⟨pc, epc, ipc⟩ := imAll_atT icl (k4.tup mob3) ex4
        obtain ⟨T2, cf, rfl, tt2, icf⟩ := part_inv ipc
        have hpc := List.mem_of_getElem? epc
        obtain ⟨b1, b2⟩ := o1.b pc hpc
        obtain ⟨m1, m2, m3, m4, m5⟩ := o1.sm pc hpc
        have ts := fun j => take_succ_row o1.nd epc j
        have out : rowF (wk.2.2.2.take d) wk.1 = 0 := rowF_out fun q hq => (o1.b q (List.mem_of_mem_take hq)).2
        obtain ⟨xs, xi, e1, a1, i1⟩ := FL4.get b1
        obtain ⟨xs', xv, e2, a2, i2⟩ := FL4.get o1.v
        rw [e1] at e2
        cases e2
        have i1 : Im K H5 xi (numD (G pc.1)) := by
          have z : G pc.1 - rowF (wk.2.2.2.take d) pc.1 * G wk.1 = G pc.1 := by rw [(ts 0).2]; grind
          simp only [z] at i1; exact i1
        have i2 : Im K H5 xv (numD (G wk.1)) := by
          have z : G wk.1 - rowF (wk.2.2.2.take d) wk.1 * G wk.1 = G wk.1 := by rw [out]; grind
          simp only [z] at i2; exact i2
        refine ⟨_, _, rfl, tt2, rfl, _, _, rfl, _, _, rfl, rfl, ?_⟩
        refine ⟨_, rfl, _, rfl, D, xs, _, _, rfl, rfl, SqL.of e1, a1, _, rfl, _, rfl, _, rfl, D, xs, _, _, rfl, rfl, SqL.of e1, a2, ?_⟩
        refine ⟨_, _, pc.2, G wk.1, rfl, icf, i2, m2, m3, True.intro, m4, fun v2 H6 s6 i6 => ?_⟩
        refine ⟨_, _, G pc.1, pc.2 * G wk.1, rfl, i1.mono s6.tup, i6, m1, m4, True.intro, m5, fun v4 H7 s7 i7 => ?_⟩
        have s57 := s6.trans s7
        obtain ⟨xs7, e7, x7, FL7⟩ := (FL4.mono s57).set b1 i7
        refine ⟨_, rfl, _, rfl, D, xs7, _, _, rfl, rfl, e7, x7, _, _, rfl, (k4.trans s57.kp).upd (by simp), FL7.congr fun i hi => ?_⟩
        rw [(ts i).1]
        by_cases e : i = pc.1
        · rw [if_pos e, if_pos e, e]
        · rw [if_neg e, if_neg e]
      · rintro σ H4 ⟨y4, y9, rfl, k4, FL4⟩
        refine ⟨_, _, _, _, _, _, rfl, fun b o e => ?_, FL4.congr fun i _ => ?_⟩
        · exact k4 b o (fun hb => by rw [List.mem_singleton.mp hb, hD] at e; cases e) (s2 b o e)
        · rw [List.take_of_length_le (l := wk.2.2.2) (by omega), List.take_succ, ewk, List.foldl_append, hG]
          rfl
    · rintro σ H2 ⟨x4, x5, x6, x7, x8, x9, rfl, s2, FL2⟩
      rw [List.take_of_length_le (by omega)] at FL2
      refine ⟨_, rfl, a, ys, rfl, s2.seq la, for_it (walk_rev (xs := ys)) (fun k σ H' => ∃ x4 x5 x6 x7 x8 x9 x10 x11, σ = [some (.int n), some (.ref a), some (.ref b), some (.ref D), x4, x5, x6, x7, x8, x9, x10, x11] ∧ Same H H' ∧ FL K H' D n ((ws.reverse.take k).foldl bkW (ws.foldl fwW F)))
        ⟨_, _, _, _, _, _, _, _, rfl, s2, FL2⟩ (fun k σ H' _ ⟨_, _, _, _, _, _, _, _, _, s', _⟩ => s'.seq la) ?_ ?_⟩
      · rintro k x σ H3 H4 hk ⟨z4, z5, z6, z7, z8, z9, z10, z11, rfl, s3, FL3⟩ ⟨rfl, ex⟩
        obtain ⟨wk, ewk, iw⟩ := imAll_at iys s3 ex
        have ewr : ws.reverse[k]? = some wk := by rw [List.getElem?_reverse (by omega), ← lys]; exact ewk
        obtain ⟨T1, pv, r, c, rfl, tt, ipv, ir, ic⟩ := w1_inv iw
        have o1 := ok.b k wk ewr
        generalize hG : (ws.reverse.take k).foldl bkW (ws.foldl fwW F) = G at FL3 o1
        obtain ⟨_, zs, e, tcl, icl⟩ := row_inv ir
        cases e
        have lzs : zs.length = wk.2.2.1.length := by rw [icl.length, List.length_map]
        have mob3 : ∀ b ∈ [D], Mob H4 b := fun b hb => by
          obtain ⟨xs, e1, _⟩ := FL3
          rw [List.mem_singleton.mp hb]; exact .inr ⟨xs, e1⟩
        refine ⟨_, _, rfl, tt, rfl, _, _, rfl, _, _, rfl, _, _, rfl, _, _, rfl, rfl, ?_⟩
        refine ⟨_, rfl, r, rfl, ⟨_, tcl⟩, for_it (walk_tup (xs := zs)) (fun d σ H' => ∃ x10 x11, σ = [some (.int n), some (.ref a), some (.ref b), some (.ref D), z4, some (.int (wk.1 : Nat)), some pv, some (.ref r), some (.ref c), z9, x10, x11] ∧ Kp [D] H4 H' ∧ FL K H' D n (fun i => if i = wk.1 then G wk.1 - psum G (wk.2.2.1.take d) else G i))
          ⟨_, _, rfl, .refl, FL3.congr fun i _ => ?_⟩ (fun d σ H' _ ⟨_, _, _, kk, _⟩ => kk.tt mob3 tcl) ?_ ?_⟩
        · by_cases e : i = wk.1
          · simp [e, psum]; grind
          · simp [e]
        · rintro d x σ H5 H6 hd ⟨y10, y11, rfl, k5, FL5⟩ ⟨rfl, ex5⟩
          obtain ⟨pc, epc, ipc⟩ := imAll_atT icl (k5.tup mob3) ex5
          obtain ⟨T2, cf, rfl, tt2, icf⟩ := part_inv ipc
          obtain ⟨b1, b2⟩ := o1.b pc (List.mem_of_getElem? epc)
          obtain ⟨m1, m2, m3, m4, m5⟩ := o1.sm d pc epc
          obtain ⟨xs, xi, e1, a1, i1⟩ := FL5.get o1.v
          obtain ⟨xs', xj, e2, a2, i2⟩ := FL5.get b1
          rw [e1] at e2
          cases e2
          simp only [if_true] at i1
          simp only [b2, if_false] at i2
          have eps : psum G (wk.2.2.1.take (d + 1)) = psum G (wk.2.2.1.take d) + pc.2 * G pc.1 := by
            rw [List.take_succ, epc]; exact psum_snoc G pc _
          refine ⟨_, _, rfl, tt2, rfl, _, _, rfl, _, _, rfl, rfl, ?_⟩
          refine ⟨_, rfl, _, rfl, D, xs, _, _, rfl, rfl, SqL.of e1, a1, _, rfl, _, rfl, _, rfl, D, xs, _, _, rfl, rfl, SqL.of e1, a2, ?_⟩
          refine ⟨_, _, pc.2, G pc.1, rfl, icf, i2, m2, m3, True.intro, m4, fun v2 H7 s7 i7 => ?_⟩
          have e5 : G wk.1 - psum G (wk.2.2.1.take d) - pc.2 * G pc.1 = G wk.1 - psum G (wk.2.2.1.take (d + 1)) := by rw [eps]; grind
          refine ⟨_, _, G wk.1 - psum G (wk.2.2.1.take d), pc.2 * G pc.1, rfl, i1.mono s7.tup, i7, m1, m4, True.intro, (by show Sm (G wk.1 - psum G (wk.2.2.1.take d) - pc.2 * G pc.1); rw [e5]; exact m5), fun v4 H8 s8 i8 => ?_⟩
          have s68 := s7.trans s8
          obtain ⟨xs8, e8, x8, FL8⟩ := (FL5.mono s68).set o1.v i8
          refine ⟨_, rfl, _, rfl, D, xs8, _, _, rfl, rfl, e8, x8, _, _, rfl, (k5.trans s68.kp).upd (by simp), FL8.congr fun i hi => ?_⟩
          by_cases e : i = wk.1
          · rw [if_pos e, if_pos e]; exact e5
          · rw [if_neg e, if_neg e, if_neg e]
        · rintro σ H5 ⟨y10, y11, rfl, k5, FL5⟩
          rw [List.take_of_length_le (l := wk.2.2.1) (by omega)] at FL5
          obtain ⟨m1, m2, m3, m4⟩ := o1.sm2
          obtain ⟨xs, xi, e1, a1, i1⟩ := FL5.get o1.v
          simp only [if_true] at i1
          have ipv5 := ipv.mono (k5.tup mob3)
          refine ⟨_, rfl, _, rfl, D, xs, _, _, rfl, rfl, SqL.of e1, a1, _, rfl, _, _, _, wk.2.1, rfl, i1, ipv5, m1, m2, m3, m4, fun v4 H8 s8 i8 => ?_⟩
          obtain ⟨xs8, e8, x8, FL8⟩ := (FL5.mono s8).set o1.v i8
          refine ⟨_, rfl, _, rfl, D, xs8, _, _, rfl, rfl, e8, x8, _, _, _, _, _, _, _, _, rfl, ?_, FL8.congr fun i hi => ?_⟩
          · have k8 := (k5.trans s8.kp).upd (o := .lst (xs8.set wk.1 v4)) (List.mem_singleton.mpr rfl)
            exact fun b o e => k8 b o (fun hb => by rw [List.mem_singleton.mp hb, hD] at e; cases e) (s3 b o e)
          · rw [List.take_succ, ewr, List.foldl_append, hG]
            show _ = bkW G wk i
            unfold bkW
            by_cases e : i = wk.1
            · rw [if_pos e, if_pos e]
            · rw [if_neg e, if_neg e, if_neg e]
      · rintro σ H3 ⟨z4, z5, z6, z7, z8, z9, z10, z11, rfl, s3, FL3⟩
        rw [List.take_of_length_le (by rw [List.length_reverse]; omega)] at FL3
        exact ⟨_, rfl, q D H3 s3 hD FL3⟩
end
end FW
end

/-! ## W8 -/
section
set_option Elab.async false
set_option linter.all false
set_option maxRecDepth 100000
set_option maxHeartbeats 4000000
namespace FW
open PySem PySem.Spec PyProof.Rows L2 FF
section
variable {P : Program} {w : World} {K : PySem.W.Frag} {mg : Str → Option Value} {base : Heap}
def Pen (H : Hp) (p : Addr) : Prop := ∃ i j k : Int, H p = some (.lst [.int i, .int j, .int k])
theorem Pen.mob {H : Hp} {p : Addr} (h : Pen H p) : ∀ b ∈ [p], Mob H b := fun b hb => by
  obtain ⟨i, j, k, e⟩ := h
  rw [List.mem_singleton.mp hb]; exact .inr ⟨_, e⟩
theorem Pen.mono {H H' : Hp} {p : Addr} (h : Pen H p) (s : Same H H') : Pen H' p := by
  obtain ⟨i, j, k, e⟩ := h
  exact ⟨i, j, k, s _ _ e⟩
/-- behind a draw -/
def RetP (p : Addr) (H : Hp) (Q : VK) (C : V → Hp → Prop) : Prop := ∀ v H', Kp [p] H H' → Pen H' p → C v H' → Q v H'
theorem ite_any {p : Prop} {d : Decidable p} {A B : Prop} (x : A) (y : B) : if decide p = true then A else B := by split <;> assumption
theorem fmod_b {x m : Int} (h : 0 < m) : 0 ≤ x.fmod m ∧ x.fmod m < m := by
  rw [Int.fmod_eq_emod_of_nonneg _ (by omega)]
  exact ⟨Int.emod_nonneg _ (by omega), Int.emod_lt_of_pos _ h⟩
def sp_law_draw (K : PySem.W.Frag) : Sp := fun vs H Q _ => ∃ (p : Addr) (n : Int), vs = [.ref p, .int n] ∧ Pen H p ∧ 0 < n ∧ n < 1073741824 ∧ RetP p H Q fun v _ => ∃ d : Int, v = .int d ∧ 0 ≤ d ∧ d < n
abbrev s_law_draw : Stmt := topS 41
theorem sc_law_draw : FnScope ["_law_pen_here", "_law_size", "_law_drawn", "_law_number_here"] ["_law_pen_here", "_law_size"] (defScope s_law_draw) := ⟨rfl, rfl, rfl, by decide +kernel, rfl, by decide +kernel, by decide +kernel⟩
theorem fn_law_draw (T : Tops K mg) : Fn P w K mg base CX0 1 "_law_draw" ["_law_pen_here", "_law_size"] (sp_law_draw K) := by
  refine T.d_law_draw.fn sc_law_draw (fun _ _ _ _ _ _ us hl => match us, hl with | [_, _], _ => rfl) (fun vs H Q E h => ?_) (fun f cdv A outer s H vs Q E hr h => ?_)
  · obtain ⟨p, n, rfl, _⟩ := h; rfl
  · obtain ⟨p, n, rfl, ⟨i, j, k, ep⟩, h0, h1, q⟩ := h
    have lp := SqL.of (K := K) ep
    refine ⟨_, (pss_cons (ps_asg (pe_op op_add (pe_ix ix_listK (pv 0) pe_int (fun _ _ => rfl)) pe_int) (pg_sub (pv 0) pe_int set_list))
  (pss_cons (ps_if (pt_cmpR op_eq (pe_ix ix_listK (pv 0) pe_int (fun _ _ => rfl)) pe_int (nomark _))
  (pss_cons (ps_set (i := 2) sc_law_draw.nd rfl (.inl rfl) (pe_op op_modN (pe_ix ix_listK (pv 0) pe_int (fun _ _ => rfl)) (pv 1)))
  (pss_cons (ps_asg (pe_op op_fdiv (pe_ix ix_listK (pv 0) pe_int (fun _ _ => rfl)) (pv 1)) (pg_sub (pv 0) pe_int set_list))
  (pss_one (ps_ret (pv 2)))))
  pss_nil)
  (pss_cons (ps_set (i := 3) sc_law_draw.nd rfl (.inl rfl) (pe_op op_modN (pe_op op_mul (pe_op op_add (pe_op op_add (pe_ix ix_listK (pv 0) pe_int (fun _ _ => rfl)) (pe_op op_mul pe_int (pe_ix ix_listK (pv 0) pe_int (fun _ _ => rfl)))) pe_int) pe_int) pe_int))
  (pss_cons (ps_set (i := 3) sc_law_draw.nd rfl (.inl rfl) (pe_op op_modN (pe_op op_mul (pv 3) (pe_op op_add (pe_op op_add (pe_op op_modN (pv 3) pe_int) (pe_ix ix_listK (pv 0) pe_int (fun _ _ => rfl))) pe_int)) pe_int))
  (pss_one (ps_ret (pe_op op_modN (pe_op op_fdiv (pe_op op_modN (pe_op op_mul (pv 3) (pe_op op_add (pe_op op_modN (pv 3) pe_int) pe_int)) pe_int) pe_int) (pv 1)))))))), ?_⟩
    repeat' (first
      | exact q
      | refine ⟨_, _, _, _, rfl, rfl, (by assumption), rfl, ?_⟩
      | refine ⟨_, _, _, _, true, rfl, .ty _, (by first | exact .base (.int _) | exact ty_tup (by assumption) | exact ty_lst (by assumption)), kit_ty (by decide +kernel), ?_⟩
      | refine ⟨_, _, _, _, false, rfl, .ty _, (by first | exact .base (.int _) | exact ty_tup (by assumption) | exact ty_lst (by assumption)), kit_ty (by decide +kernel), ?_⟩
      | refine ⟨_, _, rfl, .inr (by assumption), ?_⟩
      | refine ⟨_, _, rfl, .inl (by assumption), ?_⟩
      | refine ⟨_, _, rfl, (by assumption), rfl, ?_⟩
      | refine ⟨_, rfl, ?_⟩
      | refine ⟨_, _, rfl, rfl, ?_⟩
      | refine ⟨Nat.le_of_ble_eq_true rfl, fun p hp => ?_⟩
      | refine ⟨_, _, rfl, ?_⟩
      | refine ⟨rfl, ?_⟩
      | refine ⟨mul_ok4 (by assumption) (by assumption), ?_⟩
      | fail)
    generalize hH1 : L2.upd H p _ = H1
    have e1 : H1 p = some (.lst [.int i, .int j, .int (k + 1)]) := by rw [← hH1]; exact upd_same
    have k1 : Kp [p] H H1 := by rw [← hH1]; exact Kp.refl.upd (by simp)
    have l1 := SqL.of (K := K) e1
    repeat' (first
      | exact q
      | refine ⟨_, _, _, _, rfl, rfl, (by assumption), rfl, ?_⟩
      | refine ⟨_, _, _, _, true, rfl, .ty _, (by first | exact .base (.int _) | exact ty_tup (by assumption) | exact ty_lst (by assumption)), kit_ty (by decide +kernel), ?_⟩
      | refine ⟨_, _, _, _, false, rfl, .ty _, (by first | exact .base (.int _) | exact ty_tup (by assumption) | exact ty_lst (by assumption)), kit_ty (by decide +kernel), ?_⟩
      | refine ⟨_, _, rfl, .inr (by assumption), ?_⟩
      | refine ⟨_, _, rfl, .inl (by assumption), ?_⟩
      | refine ⟨_, _, rfl, (by assumption), rfl, ?_⟩
      | refine ⟨_, rfl, ?_⟩
      | refine ⟨_, _, rfl, rfl, ?_⟩
      | refine ⟨Nat.le_of_ble_eq_true rfl, fun p hp => ?_⟩
      | refine ⟨_, _, rfl, ?_⟩
      | refine ⟨rfl, ?_⟩
      | refine ⟨mul_ok4 (by assumption) (by assumption), ?_⟩
      | fail)
    by_cases hi : i = 1
    · refine ite_t (by rw [hi]) ?_
      repeat' (first
      | exact q
      | refine ⟨_, _, _, _, rfl, rfl, (by assumption), rfl, ?_⟩
      | refine ⟨_, _, _, _, true, rfl, .ty _, (by first | exact .base (.int _) | exact ty_tup (by assumption) | exact ty_lst (by assumption)), kit_ty (by decide +kernel), ?_⟩
      | refine ⟨_, _, _, _, false, rfl, .ty _, (by first | exact .base (.int _) | exact ty_tup (by assumption) | exact ty_lst (by assumption)), kit_ty (by decide +kernel), ?_⟩
      | refine ⟨_, _, rfl, .inr (by assumption), ?_⟩
      | refine ⟨_, _, rfl, .inl (by assumption), ?_⟩
      | refine ⟨_, _, rfl, (by assumption), rfl, ?_⟩
      | refine ⟨_, rfl, ?_⟩
      | refine ⟨_, _, rfl, rfl, ?_⟩
      | refine ⟨Nat.le_of_ble_eq_true rfl, fun p hp => ?_⟩
      | refine ⟨_, _, rfl, ?_⟩
      | refine ⟨rfl, ?_⟩
      | refine ⟨mul_ok4 (by assumption) (by assumption), ?_⟩
      | fail)
      refine ⟨by omega, _, rfl, p, _, 1, _, rfl, rfl, l1, rfl, _, rfl, _, _, rfl, rfl, ⟨by omega, by omega⟩, _, rfl, p, _, 1, 1, rfl, rfl, e1, rfl, _, rfl, q _ _ (k1.upd (by simp)) ⟨i, j / n, k + 1, upd_same⟩ ⟨_, rfl, fmod_b h0⟩⟩
    · refine ite_f (int_ne hi) ?_
      repeat' (first
      | exact q
      | refine ⟨_, _, _, _, rfl, rfl, (by assumption), rfl, ?_⟩
      | refine ⟨_, _, _, _, true, rfl, .ty _, (by first | exact .base (.int _) | exact ty_tup (by assumption) | exact ty_lst (by assumption)), kit_ty (by decide +kernel), ?_⟩
      | refine ⟨_, _, _, _, false, rfl, .ty _, (by first | exact .base (.int _) | exact ty_tup (by assumption) | exact ty_lst (by assumption)), kit_ty (by decide +kernel), ?_⟩
      | refine ⟨_, _, rfl, .inr (by assumption), ?_⟩
      | refine ⟨_, _, rfl, .inl (by assumption), ?_⟩
      | refine ⟨_, _, rfl, (by assumption), rfl, ?_⟩
      | refine ⟨_, rfl, ?_⟩
      | refine ⟨_, _, rfl, rfl, ?_⟩
      | refine ⟨Nat.le_of_ble_eq_true rfl, fun p hp => ?_⟩
      | refine ⟨_, _, rfl, ?_⟩
      | refine ⟨rfl, ?_⟩
      | refine ⟨mul_ok4 (by assumption) (by assumption), ?_⟩
      | fail)
      repeat' (first
      | exact q
      | refine ⟨_, _, _, _, rfl, rfl, (by assumption), rfl, ?_⟩
      | refine ⟨_, _, _, _, true, rfl, .ty _, (by first | exact .base (.int _) | exact ty_tup (by assumption) | exact ty_lst (by assumption)), kit_ty (by decide +kernel), ?_⟩
      | refine ⟨_, _, _, _, false, rfl, .ty _, (by first | exact .base (.int _) | exact ty_tup (by assumption) | exact ty_lst (by assumption)), kit_ty (by decide +kernel), ?_⟩
      | refine ⟨_, _, rfl, .inr (by assumption), ?_⟩
      | refine ⟨_, _, rfl, .inl (by assumption), ?_⟩
      | refine ⟨_, _, rfl, (by assumption), rfl, ?_⟩
      | refine ⟨_, rfl, ?_⟩
      | refine ⟨_, _, rfl, rfl, ?_⟩
      | refine ⟨Nat.le_of_ble_eq_true rfl, fun p hp => ?_⟩
      | refine ⟨_, _, rfl, ?_⟩
      | refine ⟨rfl, ?_⟩
      | refine ⟨mul_ok4 (by assumption) (by assumption), ?_⟩
      | refine And.intro (.inl ⟨by omega, by omega⟩) ?_
      | refine And.intro (.inr ⟨by omega, by omega⟩) ?_
      | refine And.intro ⟨by omega, by omega⟩ ?_
      | refine And.intro ⟨by omega, by omega, by decide⟩ ?_
      | refine And.intro (by omega) ?_
      | fail)
      have b1 := fmod_b (x := (j + 40503 * (k + 1) + 1) * 48271) (m := 2147483647) (by omega)
      repeat' (first
      | exact q
      | refine ⟨_, _, _, _, rfl, rfl, (by assumption), rfl, ?_⟩
      | refine ⟨_, _, _, _, true, rfl, .ty _, (by first | exact .base (.int _) | exact ty_tup (by assumption) | exact ty_lst (by assumption)), kit_ty (by decide +kernel), ?_⟩
      | refine ⟨_, _, _, _, false, rfl, .ty _, (by first | exact .base (.int _) | exact ty_tup (by assumption) | exact ty_lst (by assumption)), kit_ty (by decide +kernel), ?_⟩
      | refine ⟨_, _, rfl, .inr (by assumption), ?_⟩
      | refine ⟨_, _, rfl, .inl (by assumption), ?_⟩
      | refine ⟨_, _, rfl, (by assumption), rfl, ?_⟩
      | refine ⟨_, rfl, ?_⟩
      | refine ⟨_, _, rfl, rfl, ?_⟩
      | refine ⟨Nat.le_of_ble_eq_true rfl, fun p hp => ?_⟩
      | refine ⟨_, _, rfl, ?_⟩
      | refine ⟨rfl, ?_⟩
      | refine ⟨mul_ok4 (by assumption) (by assumption), ?_⟩
      | refine And.intro (.inl ⟨by omega, by omega⟩) ?_
      | refine And.intro (.inr ⟨by omega, by omega⟩) ?_
      | refine And.intro ⟨by omega, by omega⟩ ?_
      | refine And.intro ⟨by omega, by omega, by decide⟩ ?_
      | refine And.intro (by omega) ?_
      | fail)
      have b2 := fmod_b (x := ((j + 40503 * (k + 1) + 1) * 48271).fmod 2147483647 * ((((j + 40503 * (k + 1) + 1) * 48271).fmod 2147483647).fmod 65521 + (k + 1) + 3)) (m := 2147483629) (by omega)
      repeat' (first
      | exact q
      | refine ⟨_, _, _, _, rfl, rfl, (by assumption), rfl, ?_⟩
      | refine ⟨_, _, _, _, true, rfl, .ty _, (by first | exact .base (.int _) | exact ty_tup (by assumption) | exact ty_lst (by assumption)), kit_ty (by decide +kernel), ?_⟩
      | refine ⟨_, _, _, _, false, rfl, .ty _, (by first | exact .base (.int _) | exact ty_tup (by assumption) | exact ty_lst (by assumption)), kit_ty (by decide +kernel), ?_⟩
      | refine ⟨_, _, rfl, .inr (by assumption), ?_⟩
      | refine ⟨_, _, rfl, .inl (by assumption), ?_⟩
      | refine ⟨_, _, rfl, (by assumption), rfl, ?_⟩
      | refine ⟨_, rfl, ?_⟩
      | refine ⟨_, _, rfl, rfl, ?_⟩
      | refine ⟨Nat.le_of_ble_eq_true rfl, fun p hp => ?_⟩
      | refine ⟨_, _, rfl, ?_⟩
      | refine ⟨rfl, ?_⟩
      | refine ⟨mul_ok4 (by assumption) (by assumption), ?_⟩
      | refine And.intro (.inl ⟨by omega, by omega⟩) ?_
      | refine And.intro (.inr ⟨by omega, by omega⟩) ?_
      | refine And.intro ⟨by omega, by omega⟩ ?_
      | refine And.intro ⟨by omega, by omega, by decide⟩ ?_
      | refine And.intro (by omega) ?_
      | fail)
      exact q _ _ k1 ⟨_, _, _, e1⟩ ⟨_, rfl, fmod_b h0⟩
def sp_law_pen (K : PySem.W.Frag) : Sp := fun vs H Q _ => ∃ (a : Addr) (ns : List Int) (k : Nat), vs = [.ref a, .int k] ∧ SqL K H a (ns.map V.int) ∧ k < 8 ∧ (∀ p H', Same H H' → H p = none → Pen H' p → Q (.ref p) H')
abbrev s_law_pen : Stmt := topS 40
theorem sc_law_pen : FnScope ["_law_script", "_law_k", "_law_cell"] ["_law_script", "_law_k"] (defScope s_law_pen) := ⟨rfl, rfl, rfl, by decide +kernel, rfl, by decide +kernel, by decide +kernel⟩
theorem fn_law_pen (T : Tops K mg) : Fn P w K mg base CX0 1 "_law_pen" ["_law_script", "_law_k"] (sp_law_pen K) := by
  refine T.d_law_pen.fn sc_law_pen (fun _ _ _ _ _ _ us hl => match us, hl with | [_, _], _ => rfl) (fun vs H Q E h => ?_) (fun f cdv A outer s H vs Q E hr h => ?_)
  · obtain ⟨a, ns, k, rfl, _⟩ := h; rfl
  · obtain ⟨a, ns, k, rfl, la, k8, q⟩ := h
    refine ⟨_, (pss_cons (ps_set (i := 2) sc_law_pen.nd rfl (.inl rfl) (pe_op op_add (pe_op op_mul pe_int (pv 1)) pe_int))
  (pss_cons (ps_if (pt_cmpR op_lt (pv 1) (pe_callB (call_min2 rfl) (by rfl) T.B.min bo_min (pa_cons (pe_callB call_len_seqK (by rfl) T.B.len bo_len (pa_cons (pv 0) pa_nil)) (pa_cons pe_int pa_nil))) (nomark _))
  (pss_one (ps_set (i := 2) sc_law_pen.nd rfl (.inl rfl) (pe_ix ix_listK (pv 0) (pv 1) (fun _ _ => rfl))))
  (pss_one (ps_if (pt_cmpR op_gt (pe_callB call_len_seqK (by rfl) T.B.len bo_len (pa_cons (pv 0) pa_nil)) pe_int (nomark _))
  (pss_one (ps_set (i := 2) sc_law_pen.nd rfl (.inl rfl) (pe_op op_add (pe_op op_modN (pe_ix ix_listK (pv 0) (pe_op op_modN (pv 1) (pe_callB (call_min2 rfl) (by rfl) T.B.min bo_min (pa_cons (pe_callB call_len_seqK (by rfl) T.B.len bo_len (pa_cons (pv 0) pa_nil)) (pa_cons pe_int pa_nil)))) (fun _ _ => rfl)) (pe_op op_pow pe_int pe_int)) (pe_op op_mul pe_int (pv 1)))))
  pss_nil)))
  (pss_cons (ps_if (pt_cmpR op_ge (pe_callB call_abs (by rfl) T.B.abs bo_abs (pa_cons (pv 2) pa_nil)) (pe_op op_pow pe_int pe_int) (nomark _))
  (pss_one (ps_ret (pe_lst (pa_cons pe_int (pa_cons (pe_callB call_abs (by rfl) T.B.abs bo_abs (pa_cons (pv 2) pa_nil)) (pa_cons pe_int pa_nil))))))
  pss_nil)
  (pss_one (ps_ret (pe_lst (pa_cons pe_int (pa_cons (pe_op op_add (pe_op op_modN (pv 2) pe_int) (pe_op op_mul pe_int (pv 1))) (pa_cons pe_int pa_nil))))))))), ?_⟩
    have ll : (ns.map V.int).length = ns.length := List.length_map _
    repeat' (first
      | exact q
      | refine ⟨_, _, _, _, rfl, rfl, (by assumption), rfl, ?_⟩
      | refine ⟨_, _, _, _, true, rfl, .ty _, (by first | exact .base (.int _) | exact ty_tup (by assumption) | exact ty_lst (by assumption)), kit_ty (by decide +kernel), ?_⟩
      | refine ⟨_, _, _, _, false, rfl, .ty _, (by first | exact .base (.int _) | exact ty_tup (by assumption) | exact ty_lst (by assumption)), kit_ty (by decide +kernel), ?_⟩
      | refine ⟨_, _, rfl, .inr (by assumption), ?_⟩
      | refine ⟨_, _, rfl, .inl (by assumption), ?_⟩
      | refine ⟨_, _, rfl, (by assumption), rfl, ?_⟩
      | refine ⟨_, rfl, ?_⟩
      | refine ⟨_, _, rfl, rfl, ?_⟩
      | refine ⟨Nat.le_of_ble_eq_true rfl, fun p hp => ?_⟩
      | refine ⟨_, _, rfl, ?_⟩
      | refine ⟨rfl, ?_⟩
      | refine ⟨mul_ok4 (by assumption) (by assumption), ?_⟩
      | refine And.intro (.inl ⟨by omega, by omega⟩) ?_
      | refine And.intro (.inr ⟨by omega, by omega⟩) ?_
      | refine And.intro ⟨by omega, by omega⟩ ?_
      | refine And.intro ⟨by omega, by omega, by decide⟩ ?_
      | refine And.intro (by omega) ?_
      | fail)
    by_cases h1 : ((k : Nat) : Int) < (if (63 : Int) < (((ns.map V.int).length : Nat) : Int) then (63 : Int) else (((ns.map V.int).length : Nat) : Int))
    · refine ite_t h1 ?_
      have hk : k < ns.length := by split at h1 <;> omega
      refine ⟨_, rfl, _, rfl, a, _, _, .int ns[k], rfl, rfl, la, atI_nat (by rw [List.getElem?_map, List.getElem?_eq_getElem hk]; rfl), ?_⟩
      repeat' (first
      | exact q
      | refine ⟨_, _, _, _, rfl, rfl, (by assumption), rfl, ?_⟩
      | refine ⟨_, _, _, _, true, rfl, .ty _, (by first | exact .base (.int _) | exact ty_tup (by assumption) | exact ty_lst (by assumption)), kit_ty (by decide +kernel), ?_⟩
      | refine ⟨_, _, _, _, false, rfl, .ty _, (by first | exact .base (.int _) | exact ty_tup (by assumption) | exact ty_lst (by assumption)), kit_ty (by decide +kernel), ?_⟩
      | refine ⟨_, _, rfl, .inr (by assumption), ?_⟩
      | refine ⟨_, _, rfl, .inl (by assumption), ?_⟩
      | refine ⟨_, _, rfl, (by assumption), rfl, ?_⟩
      | refine ⟨_, rfl, ?_⟩
      | refine ⟨_, _, rfl, rfl, ?_⟩
      | refine ⟨Nat.le_of_ble_eq_true rfl, fun p hp => ?_⟩
      | refine ⟨_, _, rfl, ?_⟩
      | refine ⟨rfl, ?_⟩
      | refine ⟨mul_ok4 (by assumption) (by assumption), ?_⟩
      | refine And.intro (.inl ⟨by omega, by omega⟩) ?_
      | refine And.intro (.inr ⟨by omega, by omega⟩) ?_
      | refine And.intro ⟨by omega, by omega⟩ ?_
      | refine And.intro ⟨by omega, by omega, by decide⟩ ?_
      | refine And.intro (by omega) ?_
      | fail)
      refine ite_any ?_ ?_
      · repeat' (first
      | exact q
      | refine ⟨_, _, _, _, rfl, rfl, (by assumption), rfl, ?_⟩
      | refine ⟨_, _, _, _, true, rfl, .ty _, (by first | exact .base (.int _) | exact ty_tup (by assumption) | exact ty_lst (by assumption)), kit_ty (by decide +kernel), ?_⟩
      | refine ⟨_, _, _, _, false, rfl, .ty _, (by first | exact .base (.int _) | exact ty_tup (by assumption) | exact ty_lst (by assumption)), kit_ty (by decide +kernel), ?_⟩
      | refine ⟨_, _, rfl, .inr (by assumption), ?_⟩
      | refine ⟨_, _, rfl, .inl (by assumption), ?_⟩
      | refine ⟨_, _, rfl, (by assumption), rfl, ?_⟩
      | refine ⟨_, rfl, ?_⟩
      | refine ⟨_, _, rfl, rfl, ?_⟩
      | refine ⟨Nat.le_of_ble_eq_true rfl, fun p hp => ?_⟩
      | refine ⟨_, _, rfl, ?_⟩
      | refine ⟨rfl, ?_⟩
      | refine ⟨mul_ok4 (by assumption) (by assumption), ?_⟩
      | refine And.intro (.inl ⟨by omega, by omega⟩) ?_
      | refine And.intro (.inr ⟨by omega, by omega⟩) ?_
      | refine And.intro ⟨by omega, by omega⟩ ?_
      | refine And.intro ⟨by omega, by omega, by decide⟩ ?_
      | refine And.intro (by omega) ?_
      | fail)
        exact q _ _ (same_new hp) hp ⟨_, _, _, upd_same⟩
      · repeat' (first
      | exact q
      | refine ⟨_, _, _, _, rfl, rfl, (by assumption), rfl, ?_⟩
      | refine ⟨_, _, _, _, true, rfl, .ty _, (by first | exact .base (.int _) | exact ty_tup (by assumption) | exact ty_lst (by assumption)), kit_ty (by decide +kernel), ?_⟩
      | refine ⟨_, _, _, _, false, rfl, .ty _, (by first | exact .base (.int _) | exact ty_tup (by assumption) | exact ty_lst (by assumption)), kit_ty (by decide +kernel), ?_⟩
      | refine ⟨_, _, rfl, .inr (by assumption), ?_⟩
      | refine ⟨_, _, rfl, .inl (by assumption), ?_⟩
      | refine ⟨_, _, rfl, (by assumption), rfl, ?_⟩
      | refine ⟨_, rfl, ?_⟩
      | refine ⟨_, _, rfl, rfl, ?_⟩
      | refine ⟨Nat.le_of_ble_eq_true rfl, fun p hp => ?_⟩
      | refine ⟨_, _, rfl, ?_⟩
      | refine ⟨rfl, ?_⟩
      | refine ⟨mul_ok4 (by assumption) (by assumption), ?_⟩
      | refine And.intro (.inl ⟨by omega, by omega⟩) ?_
      | refine And.intro (.inr ⟨by omega, by omega⟩) ?_
      | refine And.intro ⟨by omega, by omega⟩ ?_
      | refine And.intro ⟨by omega, by omega, by decide⟩ ?_
      | refine And.intro (by omega) ?_
      | fail)
        exact q _ _ (same_new hp) hp ⟨_, _, _, upd_same⟩
    · refine ite_f h1 ?_
      repeat' (first
      | exact q
      | refine ⟨_, _, _, _, rfl, rfl, (by assumption), rfl, ?_⟩
      | refine ⟨_, _, _, _, true, rfl, .ty _, (by first | exact .base (.int _) | exact ty_tup (by assumption) | exact ty_lst (by assumption)), kit_ty (by decide +kernel), ?_⟩
      | refine ⟨_, _, _, _, false, rfl, .ty _, (by first | exact .base (.int _) | exact ty_tup (by assumption) | exact ty_lst (by assumption)), kit_ty (by decide +kernel), ?_⟩
      | refine ⟨_, _, rfl, .inr (by assumption), ?_⟩
      | refine ⟨_, _, rfl, .inl (by assumption), ?_⟩
      | refine ⟨_, _, rfl, (by assumption), rfl, ?_⟩
      | refine ⟨_, rfl, ?_⟩
      | refine ⟨_, _, rfl, rfl, ?_⟩
      | refine ⟨Nat.le_of_ble_eq_true rfl, fun p hp => ?_⟩
      | refine ⟨_, _, rfl, ?_⟩
      | refine ⟨rfl, ?_⟩
      | refine ⟨mul_ok4 (by assumption) (by assumption), ?_⟩
      | refine And.intro (.inl ⟨by omega, by omega⟩) ?_
      | refine And.intro (.inr ⟨by omega, by omega⟩) ?_
      | refine And.intro ⟨by omega, by omega⟩ ?_
      | refine And.intro ⟨by omega, by omega, by decide⟩ ?_
      | refine And.intro (by omega) ?_
      | fail)
      by_cases h2 : (0 : Int) < (((ns.map V.int).length : Nat) : Int)
      · refine ite_t h2 ?_
        repeat' (first
      | exact q
      | refine ⟨_, _, _, _, rfl, rfl, (by assumption), rfl, ?_⟩
      | refine ⟨_, _, _, _, true, rfl, .ty _, (by first | exact .base (.int _) | exact ty_tup (by assumption) | exact ty_lst (by assumption)), kit_ty (by decide +kernel), ?_⟩
      | refine ⟨_, _, _, _, false, rfl, .ty _, (by first | exact .base (.int _) | exact ty_tup (by assumption) | exact ty_lst (by assumption)), kit_ty (by decide +kernel), ?_⟩
      | refine ⟨_, _, rfl, .inr (by assumption), ?_⟩
      | refine ⟨_, _, rfl, .inl (by assumption), ?_⟩
      | refine ⟨_, _, rfl, (by assumption), rfl, ?_⟩
      | refine ⟨_, rfl, ?_⟩
      | refine ⟨_, _, rfl, rfl, ?_⟩
      | refine ⟨Nat.le_of_ble_eq_true rfl, fun p hp => ?_⟩
      | refine ⟨_, _, rfl, ?_⟩
      | refine ⟨rfl, ?_⟩
      | refine ⟨mul_ok4 (by assumption) (by assumption), ?_⟩
      | refine And.intro (.inl ⟨by omega, by omega⟩) ?_
      | refine And.intro (.inr ⟨by omega, by omega⟩) ?_
      | refine And.intro ⟨by omega, by omega⟩ ?_
      | refine And.intro ⟨by omega, by omega, by decide⟩ ?_
      | refine And.intro (by omega) ?_
      | fail)
        have hm : (0 : Int) < (if (63 : Int) < (((ns.map V.int).length : Nat) : Int) then (63 : Int) else (((ns.map V.int).length : Nat) : Int)) := by split <;> omega
        obtain ⟨b1, b2⟩ := fmod_b (x := ((k : Nat) : Int)) hm
        obtain ⟨d, hd⟩ : ∃ d : Nat, ((k : Nat) : Int).fmod (if (63 : Int) < (((ns.map V.int).length : Nat) : Int) then (63 : Int) else (((ns.map V.int).length : Nat) : Int)) = (d : Int) := ⟨_, (Int.toNat_of_nonneg b1).symm⟩
        have hd2 : d < ns.length := by rw [hd] at b2; split at b2 <;> omega
        refine ⟨a, _, _, .int ns[d], rfl, rfl, la, ?_, ?_⟩
        · rw [hd]
          exact atI_nat (by rw [List.getElem?_map, List.getElem?_eq_getElem hd2]; rfl)
        repeat' (first
      | exact q
      | refine ⟨_, _, _, _, rfl, rfl, (by assumption), rfl, ?_⟩
      | refine ⟨_, _, _, _, true, rfl, .ty _, (by first | exact .base (.int _) | exact ty_tup (by assumption) | exact ty_lst (by assumption)), kit_ty (by decide +kernel), ?_⟩
      | refine ⟨_, _, _, _, false, rfl, .ty _, (by first | exact .base (.int _) | exact ty_tup (by assumption) | exact ty_lst (by assumption)), kit_ty (by decide +kernel), ?_⟩
      | refine ⟨_, _, rfl, .inr (by assumption), ?_⟩
      | refine ⟨_, _, rfl, .inl (by assumption), ?_⟩
      | refine ⟨_, _, rfl, (by assumption), rfl, ?_⟩
      | refine ⟨_, rfl, ?_⟩
      | refine ⟨_, _, rfl, rfl, ?_⟩
      | refine ⟨Nat.le_of_ble_eq_true rfl, fun p hp => ?_⟩
      | refine ⟨_, _, rfl, ?_⟩
      | refine ⟨rfl, ?_⟩
      | refine ⟨mul_ok4 (by assumption) (by assumption), ?_⟩
      | refine And.intro (.inl ⟨by omega, by omega⟩) ?_
      | refine And.intro (.inr ⟨by omega, by omega⟩) ?_
      | refine And.intro ⟨by omega, by omega⟩ ?_
      | refine And.intro ⟨by omega, by omega, by decide⟩ ?_
      | refine And.intro (by omega) ?_
      | fail)
        refine And.intro (show (10 : Int) ^ Int.toNat 15 ≠ 0 by decide) ?_
        repeat' (first
      | exact q
      | refine ⟨_, _, _, _, rfl, rfl, (by assumption), rfl, ?_⟩
      | refine ⟨_, _, _, _, true, rfl, .ty _, (by first | exact .base (.int _) | exact ty_tup (by assumption) | exact ty_lst (by assumption)), kit_ty (by decide +kernel), ?_⟩
      | refine ⟨_, _, _, _, false, rfl, .ty _, (by first | exact .base (.int _) | exact ty_tup (by assumption) | exact ty_lst (by assumption)), kit_ty (by decide +kernel), ?_⟩
      | refine ⟨_, _, rfl, .inr (by assumption), ?_⟩
      | refine ⟨_, _, rfl, .inl (by assumption), ?_⟩
      | refine ⟨_, _, rfl, (by assumption), rfl, ?_⟩
      | refine ⟨_, rfl, ?_⟩
      | refine ⟨_, _, rfl, rfl, ?_⟩
      | refine ⟨Nat.le_of_ble_eq_true rfl, fun p hp => ?_⟩
      | refine ⟨_, _, rfl, ?_⟩
      | refine ⟨rfl, ?_⟩
      | refine ⟨mul_ok4 (by assumption) (by assumption), ?_⟩
      | refine And.intro (.inl ⟨by omega, by omega⟩) ?_
      | refine And.intro (.inr ⟨by omega, by omega⟩) ?_
      | refine And.intro ⟨by omega, by omega⟩ ?_
      | refine And.intro ⟨by omega, by omega, by decide⟩ ?_
      | refine And.intro (by omega) ?_
      | fail)
        refine ite_any ?_ ?_
        · repeat' (first
      | exact q
      | refine ⟨_, _, _, _, rfl, rfl, (by assumption), rfl, ?_⟩
      | refine ⟨_, _, _, _, true, rfl, .ty _, (by first | exact .base (.int _) | exact ty_tup (by assumption) | exact ty_lst (by assumption)), kit_ty (by decide +kernel), ?_⟩
      | refine ⟨_, _, _, _, false, rfl, .ty _, (by first | exact .base (.int _) | exact ty_tup (by assumption) | exact ty_lst (by assumption)), kit_ty (by decide +kernel), ?_⟩
      | refine ⟨_, _, rfl, .inr (by assumption), ?_⟩
      | refine ⟨_, _, rfl, .inl (by assumption), ?_⟩
      | refine ⟨_, _, rfl, (by assumption), rfl, ?_⟩
      | refine ⟨_, rfl, ?_⟩
      | refine ⟨_, _, rfl, rfl, ?_⟩
      | refine ⟨Nat.le_of_ble_eq_true rfl, fun p hp => ?_⟩
      | refine ⟨_, _, rfl, ?_⟩
      | refine ⟨rfl, ?_⟩
      | refine ⟨mul_ok4 (by assumption) (by assumption), ?_⟩
      | refine And.intro (.inl ⟨by omega, by omega⟩) ?_
      | refine And.intro (.inr ⟨by omega, by omega⟩) ?_
      | refine And.intro ⟨by omega, by omega⟩ ?_
      | refine And.intro ⟨by omega, by omega, by decide⟩ ?_
      | refine And.intro (by omega) ?_
      | fail)
          exact q _ _ (same_new hp) hp ⟨_, _, _, upd_same⟩
        · repeat' (first
      | exact q
      | refine ⟨_, _, _, _, rfl, rfl, (by assumption), rfl, ?_⟩
      | refine ⟨_, _, _, _, true, rfl, .ty _, (by first | exact .base (.int _) | exact ty_tup (by assumption) | exact ty_lst (by assumption)), kit_ty (by decide +kernel), ?_⟩
      | refine ⟨_, _, _, _, false, rfl, .ty _, (by first | exact .base (.int _) | exact ty_tup (by assumption) | exact ty_lst (by assumption)), kit_ty (by decide +kernel), ?_⟩
      | refine ⟨_, _, rfl, .inr (by assumption), ?_⟩
      | refine ⟨_, _, rfl, .inl (by assumption), ?_⟩
      | refine ⟨_, _, rfl, (by assumption), rfl, ?_⟩
      | refine ⟨_, rfl, ?_⟩
      | refine ⟨_, _, rfl, rfl, ?_⟩
      | refine ⟨Nat.le_of_ble_eq_true rfl, fun p hp => ?_⟩
      | refine ⟨_, _, rfl, ?_⟩
      | refine ⟨rfl, ?_⟩
      | refine ⟨mul_ok4 (by assumption) (by assumption), ?_⟩
      | refine And.intro (.inl ⟨by omega, by omega⟩) ?_
      | refine And.intro (.inr ⟨by omega, by omega⟩) ?_
      | refine And.intro ⟨by omega, by omega⟩ ?_
      | refine And.intro ⟨by omega, by omega, by decide⟩ ?_
      | refine And.intro (by omega) ?_
      | fail)
          exact q _ _ (same_new hp) hp ⟨_, _, _, upd_same⟩
      · refine ite_f h2 ?_
        repeat' (first
      | exact q
      | refine ⟨_, _, _, _, rfl, rfl, (by assumption), rfl, ?_⟩
      | refine ⟨_, _, _, _, true, rfl, .ty _, (by first | exact .base (.int _) | exact ty_tup (by assumption) | exact ty_lst (by assumption)), kit_ty (by decide +kernel), ?_⟩
      | refine ⟨_, _, _, _, false, rfl, .ty _, (by first | exact .base (.int _) | exact ty_tup (by assumption) | exact ty_lst (by assumption)), kit_ty (by decide +kernel), ?_⟩
      | refine ⟨_, _, rfl, .inr (by assumption), ?_⟩
      | refine ⟨_, _, rfl, .inl (by assumption), ?_⟩
      | refine ⟨_, _, rfl, (by assumption), rfl, ?_⟩
      | refine ⟨_, rfl, ?_⟩
      | refine ⟨_, _, rfl, rfl, ?_⟩
      | refine ⟨Nat.le_of_ble_eq_true rfl, fun p hp => ?_⟩
      | refine ⟨_, _, rfl, ?_⟩
      | refine ⟨rfl, ?_⟩
      | refine ⟨mul_ok4 (by assumption) (by assumption), ?_⟩
      | refine And.intro (.inl ⟨by omega, by omega⟩) ?_
      | refine And.intro (.inr ⟨by omega, by omega⟩) ?_
      | refine And.intro ⟨by omega, by omega⟩ ?_
      | refine And.intro ⟨by omega, by omega, by decide⟩ ?_
      | refine And.intro (by omega) ?_
      | fail)
        refine ite_any ?_ ?_
        · repeat' (first
      | exact q
      | refine ⟨_, _, _, _, rfl, rfl, (by assumption), rfl, ?_⟩
      | refine ⟨_, _, _, _, true, rfl, .ty _, (by first | exact .base (.int _) | exact ty_tup (by assumption) | exact ty_lst (by assumption)), kit_ty (by decide +kernel), ?_⟩
      | refine ⟨_, _, _, _, false, rfl, .ty _, (by first | exact .base (.int _) | exact ty_tup (by assumption) | exact ty_lst (by assumption)), kit_ty (by decide +kernel), ?_⟩
      | refine ⟨_, _, rfl, .inr (by assumption), ?_⟩
      | refine ⟨_, _, rfl, .inl (by assumption), ?_⟩
      | refine ⟨_, _, rfl, (by assumption), rfl, ?_⟩
      | refine ⟨_, rfl, ?_⟩
      | refine ⟨_, _, rfl, rfl, ?_⟩
      | refine ⟨Nat.le_of_ble_eq_true rfl, fun p hp => ?_⟩
      | refine ⟨_, _, rfl, ?_⟩
      | refine ⟨rfl, ?_⟩
      | refine ⟨mul_ok4 (by assumption) (by assumption), ?_⟩
      | refine And.intro (.inl ⟨by omega, by omega⟩) ?_
      | refine And.intro (.inr ⟨by omega, by omega⟩) ?_
      | refine And.intro ⟨by omega, by omega⟩ ?_
      | refine And.intro ⟨by omega, by omega, by decide⟩ ?_
      | refine And.intro (by omega) ?_
      | fail)
          exact q _ _ (same_new hp) hp ⟨_, _, _, upd_same⟩
        · repeat' (first
      | exact q
      | refine ⟨_, _, _, _, rfl, rfl, (by assumption), rfl, ?_⟩
      | refine ⟨_, _, _, _, true, rfl, .ty _, (by first | exact .base (.int _) | exact ty_tup (by assumption) | exact ty_lst (by assumption)), kit_ty (by decide +kernel), ?_⟩
      | refine ⟨_, _, _, _, false, rfl, .ty _, (by first | exact .base (.int _) | exact ty_tup (by assumption) | exact ty_lst (by assumption)), kit_ty (by decide +kernel), ?_⟩
      | refine ⟨_, _, rfl, .inr (by assumption), ?_⟩
      | refine ⟨_, _, rfl, .inl (by assumption), ?_⟩
      | refine ⟨_, _, rfl, (by assumption), rfl, ?_⟩
      | refine ⟨_, rfl, ?_⟩
      | refine ⟨_, _, rfl, rfl, ?_⟩
      | refine ⟨Nat.le_of_ble_eq_true rfl, fun p hp => ?_⟩
      | refine ⟨_, _, rfl, ?_⟩
      | refine ⟨rfl, ?_⟩
      | refine ⟨mul_ok4 (by assumption) (by assumption), ?_⟩
      | refine And.intro (.inl ⟨by omega, by omega⟩) ?_
      | refine And.intro (.inr ⟨by omega, by omega⟩) ?_
      | refine And.intro ⟨by omega, by omega⟩ ?_
      | refine And.intro ⟨by omega, by omega, by decide⟩ ?_
      | refine And.intro (by omega) ?_
      | fail)
          exact q _ _ (same_new hp) hp ⟨_, _, _, upd_same⟩
structure NumOk (q : Rat) : Prop where
  n : q.num.natAbs ≤ 1000000
  d : q.den ≤ 1000000
theorem div_num {t b : Int} (hb : b ≠ 0) : (Rat.divInt t b).num.natAbs ≤ t.natAbs := by
  have := gdiv_mul_num (t := t) hb
  have h := gdiv_ne (t := t) hb
  have e : t.natAbs = (gdiv t b).natAbs * (Rat.divInt t b).num.natAbs := by rw [← Int.natAbs_mul, ← this]
  have h1 : 1 ≤ (gdiv t b).natAbs := by omega
  calc (Rat.divInt t b).num.natAbs = 1 * (Rat.divInt t b).num.natAbs := by omega
    _ ≤ (gdiv t b).natAbs * (Rat.divInt t b).num.natAbs := Nat.mul_le_mul_right _ h1
    _ = t.natAbs := e.symm
theorem div_den {t b : Int} (hb : b ≠ 0) : (Rat.divInt t b).den ≤ b.natAbs := by
  have := gdiv_mul_den (t := t) hb
  have h := gdiv_ne (t := t) hb
  have e : b.natAbs = (gdiv t b).natAbs * (Rat.divInt t b).den := by
    have z : b.natAbs = (gdiv t b * ((Rat.divInt t b).den : Int)).natAbs := by rw [← this]
    rw [z, Int.natAbs_mul]; rfl
  have h1 : 1 ≤ (gdiv t b).natAbs := by omega
  calc (Rat.divInt t b).den = 1 * (Rat.divInt t b).den := by omega
    _ ≤ (gdiv t b).natAbs * (Rat.divInt t b).den := Nat.mul_le_mul_right _ h1
    _ = b.natAbs := e.symm
theorem NumOk.div {t b : Int} (hb : b ≠ 0) (ht : t.natAbs ≤ 1000000) (hb2 : b.natAbs ≤ 1000000) : NumOk (Rat.divInt t b) := ⟨Nat.le_trans (div_num hb) ht, Nat.le_trans (div_den hb) hb2⟩
theorem NumOk.sm {q : Rat} (h : NumOk q) : Sm q := by
  have e : 1000000 < 2 ^ 4000 := Nat.lt_of_lt_of_le (show 1000000 < 2 ^ 20 by decide) (Nat.pow_le_pow_right (by decide) (by decide))
  exact ⟨Nat.lt_of_le_of_lt h.n e, Nat.lt_of_le_of_lt h.d e⟩
def sp_law_number (K : PySem.W.Frag) : Sp := fun vs H Q _ => ∃ p : Addr, vs = [.ref p] ∧ Pen H p ∧ RetP p H Q fun v H' => ∃ q, NumOk q ∧ Im K H' v (numD q)
abbrev s_law_number : Stmt := topS 44
theorem sc_law_number : FnScope ["_law_pen_here", "_law_way"] ["_law_pen_here"] (defScope s_law_number) := ⟨rfl, rfl, rfl, by decide +kernel, rfl, by decide +kernel, by decide +kernel⟩
theorem fn_law_number (T : Tops K mg) : Fn P w K mg base CX0 2 "_law_number" ["_law_pen_here"] (sp_law_number K) := by
  have h_law_draw : Fn P w K mg base CX0 1 "_law_draw" _ _ := (fn_law_draw T).mono (by decide)
  have h_law_lowest : Fn P w K mg base CX0 1 "_law_lowest" _ _ := (fn_law_lowest T).mono (by decide)
  refine T.d_law_number.fn sc_law_number (fun _ _ _ _ _ _ us hl => match us, hl with | [_], _ => rfl) (fun vs H Q E h => ?_) (fun f cdv A outer s H vs Q E hr h => ?_)
  · obtain ⟨p, rfl, _⟩ := h; rfl
  · obtain ⟨pn, rfl, hpn, q⟩ := h
    refine ⟨_, (pss_cons (ps_set (i := 1) sc_law_number.nd rfl (.inl rfl) (pe_fn h_law_draw hr pass0 (pa_cons (pv 0) (pa_cons pe_int pa_nil))))
  (pss_cons (ps_if (pt_cmpR op_eq (pv 1) pe_int (nomark _))
  (pss_one (ps_ret (pe_fn h_law_lowest hr pass0 (pa_cons (pe_op op_add (pe_op op_sub (pe_fn h_law_draw hr pass0 (pa_cons (pv 0) (pa_cons (pe_op op_sub (pe_op op_mul pe_int (pe_op op_pow pe_int pe_int)) pe_int) pa_nil))) (pe_op op_pow pe_int pe_int)) pe_int) (pa_cons (pe_op op_add pe_int (pe_fn h_law_draw hr pass0 (pa_cons (pv 0) (pa_cons (pe_op op_sub (pe_op op_pow pe_int pe_int) pe_int) pa_nil)))) pa_nil)))))
  pss_nil)
  (pss_one (ps_ret (pe_fn h_law_lowest hr pass0 (pa_cons (pe_op op_sub (pe_fn h_law_draw hr pass0 (pa_cons (pv 0) (pa_cons pe_int pa_nil))) pe_int) (pa_cons (pe_op op_add pe_int (pe_fn h_law_draw hr pass0 (pa_cons (pv 0) (pa_cons (pe_ix ix_listK (pe_lst (pa_cons pe_int (pa_cons pe_int (pa_cons pe_int pa_nil)))) (pe_op op_modN (pv 1) pe_int) (fun _ _ => rfl)) pa_nil)))) pa_nil))))))), ?_⟩
    repeat' (first
      | exact q
      | refine ⟨_, _, _, _, rfl, rfl, (by assumption), rfl, ?_⟩
      | refine ⟨_, _, _, _, true, rfl, .ty _, (by first | exact .base (.int _) | exact ty_tup (by assumption) | exact ty_lst (by assumption)), kit_ty (by decide +kernel), ?_⟩
      | refine ⟨_, _, _, _, false, rfl, .ty _, (by first | exact .base (.int _) | exact ty_tup (by assumption) | exact ty_lst (by assumption)), kit_ty (by decide +kernel), ?_⟩
      | refine ⟨_, _, rfl, .inr (by assumption), ?_⟩
      | refine ⟨_, _, rfl, .inl (by assumption), ?_⟩
      | refine ⟨_, _, rfl, (by assumption), rfl, ?_⟩
      | refine ⟨_, rfl, ?_⟩
      | refine ⟨_, _, rfl, rfl, ?_⟩
      | refine ⟨Nat.le_of_ble_eq_true rfl, fun p hp => ?_⟩
      | refine ⟨_, _, rfl, ?_⟩
      | refine ⟨rfl, ?_⟩
      | refine ⟨mul_ok4 (by assumption) (by assumption), ?_⟩
      | refine And.intro (.inl ⟨by omega, by omega⟩) ?_
      | refine And.intro (.inr ⟨by omega, by omega⟩) ?_
      | refine And.intro ⟨by omega, by omega⟩ ?_
      | refine And.intro ⟨by omega, by omega, by decide⟩ ?_
      | refine And.intro (by omega) ?_
      | fail)
    rintro _ H1 k1 p1 ⟨d, rfl, d0, d1⟩
    repeat' (first
      | exact q
      | refine ⟨_, _, _, _, rfl, rfl, (by assumption), rfl, ?_⟩
      | refine ⟨_, _, _, _, true, rfl, .ty _, (by first | exact .base (.int _) | exact ty_tup (by assumption) | exact ty_lst (by assumption)), kit_ty (by decide +kernel), ?_⟩
      | refine ⟨_, _, _, _, false, rfl, .ty _, (by first | exact .base (.int _) | exact ty_tup (by assumption) | exact ty_lst (by assumption)), kit_ty (by decide +kernel), ?_⟩
      | refine ⟨_, _, rfl, .inr (by assumption), ?_⟩
      | refine ⟨_, _, rfl, .inl (by assumption), ?_⟩
      | refine ⟨_, _, rfl, (by assumption), rfl, ?_⟩
      | refine ⟨_, rfl, ?_⟩
      | refine ⟨_, _, rfl, rfl, ?_⟩
      | refine ⟨Nat.le_of_ble_eq_true rfl, fun p hp => ?_⟩
      | refine ⟨_, _, rfl, ?_⟩
      | refine ⟨rfl, ?_⟩
      | refine ⟨mul_ok4 (by assumption) (by assumption), ?_⟩
      | refine And.intro (.inl ⟨by omega, by omega⟩) ?_
      | refine And.intro (.inr ⟨by omega, by omega⟩) ?_
      | refine And.intro ⟨by omega, by omega⟩ ?_
      | refine And.intro ⟨by omega, by omega, by decide⟩ ?_
      | refine And.intro (by omega) ?_
      | fail)
    by_cases h7 : d = 7
    · refine ite_t (by rw [h7]) ?_
      repeat' (first
      | exact q
      | refine ⟨_, _, _, _, rfl, rfl, (by assumption), rfl, ?_⟩
      | refine ⟨_, _, _, _, true, rfl, .ty _, (by first | exact .base (.int _) | exact ty_tup (by assumption) | exact ty_lst (by assumption)), kit_ty (by decide +kernel), ?_⟩
      | refine ⟨_, _, _, _, false, rfl, .ty _, (by first | exact .base (.int _) | exact ty_tup (by assumption) | exact ty_lst (by assumption)), kit_ty (by decide +kernel), ?_⟩
      | refine ⟨_, _, rfl, .inr (by assumption), ?_⟩
      | refine ⟨_, _, rfl, .inl (by assumption), ?_⟩
      | refine ⟨_, _, rfl, (by assumption), rfl, ?_⟩
      | refine ⟨_, rfl, ?_⟩
      | refine ⟨_, _, rfl, rfl, ?_⟩
      | refine ⟨Nat.le_of_ble_eq_true rfl, fun p hp => ?_⟩
      | refine ⟨_, _, rfl, ?_⟩
      | refine ⟨rfl, ?_⟩
      | refine ⟨mul_ok4 (by assumption) (by assumption), ?_⟩
      | refine And.intro (.inl ⟨by omega, by omega⟩) ?_
      | refine And.intro (.inr ⟨by omega, by omega⟩) ?_
      | refine And.intro ⟨by omega, by omega⟩ ?_
      | refine And.intro ⟨by omega, by omega, by decide⟩ ?_
      | refine And.intro (by omega) ?_
      | fail)
      refine ⟨by decide, by decide, ?_⟩
      rintro _ H2 k2 p2 ⟨d2, rfl, c0, c1⟩
      repeat' (first
      | exact q
      | refine ⟨_, _, _, _, rfl, rfl, (by assumption), rfl, ?_⟩
      | refine ⟨_, _, _, _, true, rfl, .ty _, (by first | exact .base (.int _) | exact ty_tup (by assumption) | exact ty_lst (by assumption)), kit_ty (by decide +kernel), ?_⟩
      | refine ⟨_, _, _, _, false, rfl, .ty _, (by first | exact .base (.int _) | exact ty_tup (by assumption) | exact ty_lst (by assumption)), kit_ty (by decide +kernel), ?_⟩
      | refine ⟨_, _, rfl, .inr (by assumption), ?_⟩
      | refine ⟨_, _, rfl, .inl (by assumption), ?_⟩
      | refine ⟨_, _, rfl, (by assumption), rfl, ?_⟩
      | refine ⟨_, rfl, ?_⟩
      | refine ⟨_, _, rfl, rfl, ?_⟩
      | refine ⟨Nat.le_of_ble_eq_true rfl, fun p hp => ?_⟩
      | refine ⟨_, _, rfl, ?_⟩
      | refine ⟨rfl, ?_⟩
      | refine ⟨mul_ok4 (by assumption) (by assumption), ?_⟩
      | refine And.intro (.inl ⟨by omega, by omega⟩) ?_
      | refine And.intro (.inr ⟨by omega, by omega⟩) ?_
      | refine And.intro ⟨by omega, by omega⟩ ?_
      | refine And.intro ⟨by omega, by omega, by decide⟩ ?_
      | refine And.intro (by omega) ?_
      | fail)
      refine ⟨by decide, by decide, ?_⟩
      rintro _ H3 k3 p3 ⟨d3, rfl, b0, b1⟩
      have e6 : (10 : Int) ^ Int.toNat 6 = 1000000 := by decide
      rw [e6] at c1 b1
      have hb : (1 + d3 : Int) ≠ 0 := by omega
      have ok : NumOk (Rat.divInt (d2 - 10 ^ Int.toNat 6 + 1) (1 + d3)) := .div hb (by rw [e6]; omega) (by omega)
      exact ⟨_, _, rfl, rfl, _, _, rfl, hb, ok.sm, fun v H4 s4 i4 => q v H4 ((k1.trans (k2.trans k3)).trans s4.kp) (p3.mono s4) ⟨_, ok, i4⟩⟩
    · refine ite_f (int_ne h7) ?_
      repeat' (first
      | exact q
      | refine ⟨_, _, _, _, rfl, rfl, (by assumption), rfl, ?_⟩
      | refine ⟨_, _, _, _, true, rfl, .ty _, (by first | exact .base (.int _) | exact ty_tup (by assumption) | exact ty_lst (by assumption)), kit_ty (by decide +kernel), ?_⟩
      | refine ⟨_, _, _, _, false, rfl, .ty _, (by first | exact .base (.int _) | exact ty_tup (by assumption) | exact ty_lst (by assumption)), kit_ty (by decide +kernel), ?_⟩
      | refine ⟨_, _, rfl, .inr (by assumption), ?_⟩
      | refine ⟨_, _, rfl, .inl (by assumption), ?_⟩
      | refine ⟨_, _, rfl, (by assumption), rfl, ?_⟩
      | refine ⟨_, rfl, ?_⟩
      | refine ⟨_, _, rfl, rfl, ?_⟩
      | refine ⟨Nat.le_of_ble_eq_true rfl, fun p hp => ?_⟩
      | refine ⟨_, _, rfl, ?_⟩
      | refine ⟨rfl, ?_⟩
      | refine ⟨mul_ok4 (by assumption) (by assumption), ?_⟩
      | refine And.intro (.inl ⟨by omega, by omega⟩) ?_
      | refine And.intro (.inr ⟨by omega, by omega⟩) ?_
      | refine And.intro ⟨by omega, by omega⟩ ?_
      | refine And.intro ⟨by omega, by omega, by decide⟩ ?_
      | refine And.intro (by omega) ?_
      | fail)
      rintro _ H2 k2 p2 ⟨d2, rfl, c0, c1⟩
      repeat' (first
      | exact q
      | refine ⟨_, _, _, _, rfl, rfl, (by assumption), rfl, ?_⟩
      | refine ⟨_, _, _, _, true, rfl, .ty _, (by first | exact .base (.int _) | exact ty_tup (by assumption) | exact ty_lst (by assumption)), kit_ty (by decide +kernel), ?_⟩
      | refine ⟨_, _, _, _, false, rfl, .ty _, (by first | exact .base (.int _) | exact ty_tup (by assumption) | exact ty_lst (by assumption)), kit_ty (by decide +kernel), ?_⟩
      | refine ⟨_, _, rfl, .inr (by assumption), ?_⟩
      | refine ⟨_, _, rfl, .inl (by assumption), ?_⟩
      | refine ⟨_, _, rfl, (by assumption), rfl, ?_⟩
      | refine ⟨_, rfl, ?_⟩
      | refine ⟨_, _, rfl, rfl, ?_⟩
      | refine ⟨Nat.le_of_ble_eq_true rfl, fun p hp => ?_⟩
      | refine ⟨_, _, rfl, ?_⟩
      | refine ⟨rfl, ?_⟩
      | refine ⟨mul_ok4 (by assumption) (by assumption), ?_⟩
      | refine And.intro (.inl ⟨by omega, by omega⟩) ?_
      | refine And.intro (.inr ⟨by omega, by omega⟩) ?_
      | refine And.intro ⟨by omega, by omega⟩ ?_
      | refine And.intro ⟨by omega, by omega, by decide⟩ ?_
      | refine And.intro (by omega) ?_
      | fail)
      have l115 := SqL.of (K := K) (upd_same (H := H2) (a := p) (o := .lst [.int 1, .int 1, .int 5]))
      obtain ⟨m0, m1⟩ := fmod_b (x := d) (m := 3) (by omega)
      have hz : ∃ z : Int, atI [V.int 1, .int 1, .int 5] (d.fmod 3) = some (.int z) ∧ 1 ≤ z ∧ z ≤ 5 := by
        have : d.fmod 3 = 0 ∨ d.fmod 3 = 1 ∨ d.fmod 3 = 2 := by omega
        rcases this with e | e | e <;> rw [e]
        · exact ⟨1, rfl, by decide, by decide⟩
        · exact ⟨1, rfl, by decide, by decide⟩
        · exact ⟨5, rfl, by decide, by decide⟩
      obtain ⟨z, ez, z1, z5⟩ := hz
      have sn := same_new (o := .lst [.int 1, .int 1, .int 5]) hp
      refine ⟨p, _, _, _, rfl, rfl, l115, ez, pn, z, rfl, p2.mono sn, by omega, by omega, ?_⟩
      rintro _ H3 k3 p3 ⟨d3, rfl, b0, b1⟩
      have hb : (1 + d3 : Int) ≠ 0 := by omega
      have ok : NumOk (Rat.divInt (d2 - 6) (1 + d3)) := .div hb (by omega) (by omega)
      exact ⟨_, _, rfl, rfl, _, _, rfl, hb, ok.sm, fun v H4 s4 i4 => q v H4 ((k1.trans (k2.trans (sn.kp.trans k3))).trans s4.kp) (p3.mono s4) ⟨_, ok, i4⟩⟩
def sp_law_order (K : PySem.W.Frag) : Sp := fun vs H Q _ => ∃ (p : Addr) (n : Nat), vs = [.ref p, .int n] ∧ Pen H p ∧ n ≤ 12 ∧ ∀ F H' (o : List Nat), Kp [p] H H' → Pen H' p → H F = none → H' F = some (.lst (o.map fun j : Nat => V.int (j : Int))) → o.Perm (List.range n) → Q (.ref F) H'
abbrev s_law_order : Stmt := topS 45
theorem sc_law_order : FnScope ["_law_pen_here", "_law_n", "_law_found", "_law_k"] ["_law_pen_here", "_law_n"] (defScope s_law_order) := ⟨rfl, rfl, rfl, by decide +kernel, rfl, by decide +kernel, by decide +kernel⟩
theorem fn_law_order (T : Tops K mg) : Fn P w K mg base CX0 2 "_law_order" ["_law_pen_here", "_law_n"] (sp_law_order K) := by
  have h_law_draw : Fn P w K mg base CX0 1 "_law_draw" _ _ := (fn_law_draw T).mono (by decide)
  refine T.d_law_order.fn sc_law_order (fun _ _ _ _ _ _ us hl => match us, hl with | [_, _], _ => rfl) (fun vs H Q E h => ?_) (fun f cdv A outer s H vs Q E hr h => ?_)
  · obtain ⟨p, n, rfl, _⟩ := h; rfl
  · obtain ⟨pn, n, rfl, hpn, n12, q⟩ := h
    refine ⟨_, (pss_cons (ps_set (i := 2) sc_law_order.nd rfl (.inl rfl) (pe_lst pa_nil))
  (pss_cons (ps_for PassesOwn.never rfl (pi_range1 (by rfl) T.B.range (pa_cons (pv 1) pa_nil)) (pg_name (i := 3) sc_law_order.nd rfl (.inl rfl))
  (pss_one (ps_expr (pe_bm PySem.F.plainAttrs_list PySem.F.slot_list_insert PySem.F.type_list_insert mt_insert (pv 2) (pa_cons (pe_fn h_law_draw hr pass0 (pa_cons (pv 0) (pa_cons (pe_op op_add (pv 3) pe_int) pa_nil))) (pa_cons (pv 3) pa_nil))))))
  (pss_one (ps_ret (pv 2))))), ?_⟩
    repeat' (first
      | exact q
      | refine ⟨_, _, _, _, rfl, rfl, (by assumption), rfl, ?_⟩
      | refine ⟨_, _, _, _, true, rfl, .ty _, (by first | exact .base (.int _) | exact ty_tup (by assumption) | exact ty_lst (by assumption)), kit_ty (by decide +kernel), ?_⟩
      | refine ⟨_, _, _, _, false, rfl, .ty _, (by first | exact .base (.int _) | exact ty_tup (by assumption) | exact ty_lst (by assumption)), kit_ty (by decide +kernel), ?_⟩
      | refine ⟨_, _, rfl, .inr (by assumption), ?_⟩
      | refine ⟨_, _, rfl, .inl (by assumption), ?_⟩
      | refine ⟨_, _, rfl, (by assumption), rfl, ?_⟩
      | refine ⟨_, rfl, ?_⟩
      | refine ⟨_, _, rfl, rfl, ?_⟩
      | refine ⟨Nat.le_of_ble_eq_true rfl, fun p hp => ?_⟩
      | refine ⟨_, _, rfl, ?_⟩
      | refine ⟨rfl, ?_⟩
      | refine ⟨mul_ok4 (by assumption) (by assumption), ?_⟩
      | refine And.intro (.inl ⟨by omega, by omega⟩) ?_
      | refine And.intro (.inr ⟨by omega, by omega⟩) ?_
      | refine And.intro ⟨by omega, by omega⟩ ?_
      | refine And.intro ⟨by omega, by omega, by decide⟩ ?_
      | refine And.intro (by omega) ?_
      | fail)
    revert p
    intro F hF
    have hFn : F ≠ pn := fun z => by obtain ⟨i, j, k, e⟩ := hpn; rw [← z, hF] at e; cases e
    have sF := same_new (o := .lst []) hF
    refine for_it walk_range (fun k σ H' => ∃ x3, σ = [some (.ref pn), some (.int n), some (.ref F), x3] ∧ Kp [pn] H H' ∧ Pen H' pn ∧ ∃ o : List Nat, H' F = some (.lst (o.map fun j : Nat => V.int (j : Int))) ∧ o.Perm (List.range k)) ⟨none, rfl, sF.kp, hpn.mono sF, [], upd_same, .refl _⟩ (fun _ _ _ _ _ => True.intro) ?_ ?_
    · rintro k x σ H1 H2 hk ⟨x3, rfl, k1, p1, o, eF, po⟩ ⟨rfl, rfl⟩
      have hk' : k < n := by simpa using hk
      have lo : o.length = k := by rw [po.length_eq, List.length_range]
      refine ⟨_, rfl, .inl ⟨rfl, _, SqL.of eF⟩, _, rfl, _, rfl, _, _, rfl, rfl, pn, _, rfl, p1, by omega, by omega, ?_⟩
      rintro _ H3 k3 p3 ⟨d, rfl, d0, d1⟩
      have eF3 := k3 F _ (by simpa using hFn) eF
      refine ⟨_, rfl, F, _, d, _, rfl, rfl, eF3, small1000 (by rw [List.length_map]; omega), d0, by omega, ?_⟩
      have hmv : ∀ H' : Hp, Kp [pn] H H' → Kp [pn] H (L2.upd H' F (.lst ((o.map fun j : Nat => V.int (j : Int)).take d.toNat ++ [.int (0 + (k : Nat))] ++ (o.map fun j : Nat => V.int (j : Int)).drop d.toNat))) := fun H' k' => k'.mut hF
      refine ⟨_, rfl, hmv _ (k1.trans k3), ?_, o.take d.toNat ++ [k] ++ o.drop d.toNat, ?_, ?_⟩
      · obtain ⟨i, j, l, e⟩ := p3
        exact ⟨i, j, l, by rw [upd_ne (Ne.symm hFn)]; exact e⟩
      · rw [upd_same, List.map_append, List.map_append, List.map_take, List.map_drop]
        simp
      · rw [List.range_succ]
        have e1 : (o.take d.toNat ++ [k] ++ o.drop d.toNat).Perm (o ++ [k]) := by
          have h := List.take_append_drop d.toNat o
          have : (o.take d.toNat ++ ([k] ++ o.drop d.toNat)).Perm (o.take d.toNat ++ (o.drop d.toNat ++ [k])) := List.Perm.append_left _ List.perm_append_comm
          rw [← List.append_assoc, ← List.append_assoc, h] at this
          exact this
        exact e1.trans (po.append_right [k])
    · rintro σ H1 ⟨x3, rfl, k1, p1, o, eF, po⟩
      exact ⟨_, rfl, q F H1 o k1 p1 hF eF (by simpa using po)⟩
end
end FW
end

/-! ## W9 -/
section
set_option Elab.async false
set_option linter.all false
set_option maxRecDepth 100000
set_option maxHeartbeats 4000000
namespace FW
open PySem PySem.Spec PyProof.Rows L2 FF
theorem op_notInDK {X : Cx} {K : PySem.W.Frag} (hu : X.A.units + 65 < cLine) (hK : X.K = K := by rfl) : OpR X (compareOp .NotIn) (rNotInD K) := by subst hK; exact op_notInD hu
theorem cr_sortedPK {X : Cx} {K : PySem.W.Frag} (hK : X.K = K := by rfl) : CallR X (.builtin "sorted") (rSortedP K) := by subst hK; exact cr_sortedP
section
variable {P : Program} {w : World} {K : PySem.W.Frag} {mg : Str → Option Value} {base : Heap}
theorem filt_rangeG {α β : Type} (d : α) (l : List α) (p : α → Bool) (g : α → β) : ((List.range l.length).filter fun k => p (l.getD k d)).map (fun k => g (l.getD k d)) = (l.filter p).map g := by
  have e : (List.range l.length).map (fun k => l.getD k d) = l := by
    apply List.ext_getElem?
    intro j
    rw [List.getElem?_map]
    by_cases hj : j < l.length
    · rw [range_get hj]
      simp [hj]
    · rw [List.getElem?_eq_none (by simp; omega), List.getElem?_eq_none (by omega)]
      rfl
  calc ((List.range l.length).filter fun k => p (l.getD k d)).map (fun k => g (l.getD k d)) = (((List.range l.length).map (fun k => l.getD k d)).filter p).map g := by
        rw [List.filter_map, List.map_map]; rfl
    _ = (l.filter p).map g := by rw [e]
theorem getD_ofG {α : Type} {l : List α} {i : Nat} {j d : α} (e : l[i]? = some j) : l.getD i d = j := by rw [List.getD_eq_getElem?_getD, e]; rfl
theorem inV_nats (u : Nat) (l : List Nat) : inV (.int (u : Nat)) (l.map fun j : Nat => V.int (j : Int)) = decide (u ∈ l) := by
  unfold inV
  rw [List.any_map, Bool.eq_iff_iff, List.any_eq_true, decide_eq_true_eq]
  constructor
  · rintro ⟨x, hx, e⟩
    have : ((x : Nat) : Int) = (u : Nat) := by simpa [eqV] using e
    have : x = u := by omega
    rw [← this]; exact hx
  · intro h
    exact ⟨u, h, by simp [eqV]⟩
theorem flat_nats (l : List Nat) : (l.map fun j : Nat => V.int (j : Int)).all flatV = true := by
  rw [List.all_map, List.all_eq_true]
  intro x _; rfl
def tieD (t : Nat × Nat) : PyData := .tuple [.int (t.1 : Nat), .int (t.2 : Nat)]
/-- a list of places -/
def NatL (K : PySem.W.Frag) (H : Hp) (a : Addr) (l : List Nat) : Prop := SqL K H a (l.map fun j : Nat => V.int (j : Int))
def RetN (l : List Nat) (H : Hp) (Q : VK) : Prop := ∀ p H', Same H H' → H p = none → H' p = some (.lst (l.map fun j : Nat => V.int (j : Int))) → Q (.ref p) H'
def sp_law_near (K : PySem.W.Frag) : Sp := fun vs H Q _ => ∃ (a : Addr) (xs : List V) (ts : List (Nat × Nat)) (v : Nat), vs = [.ref a, .int v] ∧ SqL K H a xs ∧ ImAll K H xs (ts.map tieD) ∧ ts.length ≤ 100 ∧ RetN (near ts v) H Q
abbrev s_law_near : Stmt := topS 49
theorem sc_law_near : FnScope ["_law_ties", "_law_v", "_law_a", "_law_b"] ["_law_ties", "_law_v"] (defScope s_law_near) := ⟨rfl, rfl, rfl, by decide +kernel, rfl, by decide +kernel, by decide +kernel⟩
theorem fn_law_near (T : Tops K mg) : Fn P w K mg base CX0 1 "_law_near" ["_law_ties", "_law_v"] (sp_law_near K) := by
  refine T.d_law_near.fn sc_law_near (fun _ _ _ _ _ _ us hl => match us, hl with | [_, _], _ => rfl) (fun vs H Q E h => ?_) (fun f cdv A outer s H vs Q E hr h => ?_)
  · obtain ⟨a, xs, ts, v, rfl, _⟩ := h; rfl
  · obtain ⟨a, xs, ts, v, rfl, la, its, l100, q⟩ := h
    refine ⟨_, (pss_one (ps_ret (pe_op op_cat (pe_lc (own := [("_law_a", 2), ("_law_b", 3)]) (g := gTup K 2 (gCons (gName 2) (gCons (gName 3) (gNil)))) rfl sc_law_near.nd (pi_list (pv 0)) (blkOk_by (N := ["_law_ties", "_law_v", "_law_a", "_law_b"]) (sc := defScope s_law_near) (by decide +kernel)) (fun _ _ _ _ _ => (pg_tup rfl (pgs_cons (pg_name (i := 2) sc_law_near.nd rfl (.inl rfl)) (pgs_cons (pg_name (i := 3) sc_law_near.nd rfl (.inl rfl)) pgs_nil)))) (fun _ _ _ _ _ => pts_one (pt_cmpR op_eq (pv 2) (pv 1) (nomark _))) (fun _ _ _ _ _ => (pv 3))) (pe_lc (own := [("_law_a", 2), ("_law_b", 3)]) (g := gTup K 2 (gCons (gName 2) (gCons (gName 3) (gNil)))) rfl sc_law_near.nd (pi_list (pv 0)) (blkOk_by (N := ["_law_ties", "_law_v", "_law_a", "_law_b"]) (sc := defScope s_law_near) (by decide +kernel)) (fun _ _ _ _ _ => (pg_tup rfl (pgs_cons (pg_name (i := 2) sc_law_near.nd rfl (.inl rfl)) (pgs_cons (pg_name (i := 3) sc_law_near.nd rfl (.inl rfl)) pgs_nil)))) (fun _ _ _ _ _ => pts_one (pt_cmpR op_eq (pv 3) (pv 1) (nomark _))) (fun _ _ _ _ _ => (pv 2)))))), ?_⟩
    repeat' (first
      | exact q
      | refine ⟨_, _, _, _, rfl, rfl, (by assumption), rfl, ?_⟩
      | refine ⟨_, _, _, _, true, rfl, .ty _, (by first | exact .base (.int _) | exact ty_tup (by assumption) | exact ty_lst (by assumption)), kit_ty (by decide +kernel), ?_⟩
      | refine ⟨_, _, _, _, false, rfl, .ty _, (by first | exact .base (.int _) | exact ty_tup (by assumption) | exact ty_lst (by assumption)), kit_ty (by decide +kernel), ?_⟩
      | refine ⟨_, _, rfl, .inr (by assumption), ?_⟩
      | refine ⟨_, _, rfl, .inl (by assumption), ?_⟩
      | refine ⟨_, _, rfl, (by assumption), rfl, ?_⟩
      | refine ⟨_, rfl, ?_⟩
      | refine ⟨_, _, rfl, rfl, ?_⟩
      | refine ⟨Nat.le_of_ble_eq_true rfl, fun p hp => ?_⟩
      | refine ⟨_, _, rfl, ?_⟩
      | refine ⟨rfl, ?_⟩
      | refine ⟨mul_ok4 (by assumption) (by assumption), ?_⟩
      | fail)
    have lx : xs.length = ts.length := by rw [its.length, List.length_map]
    have one : ∀ {H' : Hp} {i : Nat} {x : V}, Same H H' → xs[i]? = some x → ∃ t T, ts[i]? = some t ∧ x = .ref T ∧ SqT K H' T [.int (t.1 : Nat), .int (t.2 : Nat)] := fun {H' i x} s e => by
      obtain ⟨t, et, it⟩ := imAll_at its s e
      obtain ⟨T, zs, rfl, tt, iz⟩ := it.tup_inv
      obtain ⟨y, z, rfl, h1, h2⟩ := iz.two_inv
      rw [h1.int_inv, h2.int_inv] at tt
      exact ⟨t, T, et, rfl, tt⟩
    refine ⟨⟨_, la⟩, fun D hD => lc_f (walk_list (xs := xs)) (fun k => decide ((ts.getD k (0, 0)).1 = v)) (PVl fun k => V.int (((ts.getD k (0, 0)).2 : Nat) : Int)) PVl.m1 PVl.m2 hD (by omega) (fun H' s => s.seq la) (fun i x H1 H2 Qy Qn hi s1 yy ky kn => ?_) (fun H1 hacc => ?_)⟩
    · obtain ⟨rfl, ex⟩ := yy
      obtain ⟨t, T, et, rfl, tt⟩ := one s1 ex
      rw [getD_ofG et] at ky kn
      refine ⟨_, _, rfl, tt, rfl, _, _, rfl, _, _, rfl, rfl, rfl, _, rfl, _, rfl, rfl, _, rfl, ?_⟩
      by_cases e : t.1 = v
      · rw [decide_eq_true (show V.int (t.1 : Nat) = V.int (v : Nat) by rw [e])]
        refine ⟨_, rfl, ky (by simp [e]) _ _ (Same.refl _) ?_⟩
        show _ = V.int (((ts.getD i (0, 0)).2 : Nat) : Int)
        rw [getD_ofG et]
      · rw [decide_eq_false (int_ne (show ((t.1 : Nat) : Int) ≠ (v : Nat) by omega))]
        exact kn (by simp [e]) _ (Same.refl _)
    obtain ⟨s1, e1⟩ := hacc.vl
    rw [lx, filt_rangeG (0, 0) ts (fun t => decide (t.1 = v)) (fun t => V.int ((t.2 : Nat) : Int))] at e1
    refine ⟨_, rfl, a, rfl, ⟨_, s1.seq la⟩, fun D2 hD2 => lc_f (walk_list (xs := xs)) (fun k => decide ((ts.getD k (0, 0)).2 = v)) (PVl fun k => V.int (((ts.getD k (0, 0)).1 : Nat) : Int)) PVl.m1 PVl.m2 hD2 (by omega) (fun H' s => s.seq (s1.seq la)) (fun i x H2 H3 Qy Qn hi s2 yy ky kn => ?_) (fun H2 hacc2 => ?_)⟩
    · obtain ⟨rfl, ex⟩ := yy
      obtain ⟨t, T, et, rfl, tt⟩ := one (s1.trans s2) ex
      rw [getD_ofG et] at ky kn
      refine ⟨_, _, rfl, tt, rfl, _, _, rfl, _, _, rfl, rfl, rfl, _, rfl, _, rfl, rfl, _, rfl, ?_⟩
      by_cases e : t.2 = v
      · rw [decide_eq_true (show V.int (t.2 : Nat) = V.int (v : Nat) by rw [e])]
        refine ⟨_, rfl, ky (by simp [e]) _ _ (Same.refl _) ?_⟩
        show _ = V.int (((ts.getD i (0, 0)).1 : Nat) : Int)
        rw [getD_ofG et]
      · rw [decide_eq_false (int_ne (show ((t.2 : Nat) : Int) ≠ (v : Nat) by omega))]
        exact kn (by simp [e]) _ (Same.refl _)
    obtain ⟨s2, e2⟩ := hacc2.vl
    rw [lx, filt_rangeG (0, 0) ts (fun t => decide (t.2 = v)) (fun t => V.int ((t.1 : Nat) : Int))] at e2
    refine ⟨D, D2, _, _, rfl, rfl, s2 _ _ e1, e2, ?_, fun p hp => q p _ ((s1.trans s2).trans (same_new hp)) ((s1.trans s2).free hp) ?_⟩
    · have h1 := List.length_filter_le (fun t : Nat × Nat => decide (t.1 = v)) ts
      have h2 := List.length_filter_le (fun t : Nat × Nat => decide (t.2 = v)) ts
      rw [List.length_map, List.length_map, sizeLine_eq]
      omega
    · rw [upd_same]
      unfold near
      rw [List.map_append, List.map_map, List.map_map]
      rfl
/-! ### _law_later -/
def sp_law_later (K : PySem.W.Frag) : Sp := fun vs H Q _ => ∃ (a b : Addr) (xs : List V) (n k v : Nat) (ts : List (Nat × Nat)) (o : List Nat), vs = [.ref a, .ref b, .int k] ∧ SqL K H a xs ∧ ImAll K H xs (ts.map tieD) ∧ ts.length ≤ 100 ∧ Ties n ts ∧ n ≤ 12 ∧ NatL K H b o ∧ o[k]? = some v ∧ o.Nodup ∧ (∀ j ∈ o, j < n) ∧
  ∀ p H' (l : List Nat) (q : Nat → Bool), Same H H' → H p = none → H' p = some (.lst (l.map fun j : Nat => V.int (j : Int))) → l = (o.drop (k + 1)).filter q → (∀ x ∈ o.drop (k + 1), (q x = true ↔ Conn (Tie ts) (· ∈ o.take k) v x)) → Q (.ref p) H'
abbrev s_law_later : Stmt := topS 50
theorem sc_law_later : FnScope ["_law_ties", "_law_order_here", "_law_at", "_law_seen", "_law_k", "_law_w"] ["_law_ties", "_law_order_here", "_law_at"] (defScope s_law_later) := ⟨rfl, rfl, rfl, by decide +kernel, rfl, by decide +kernel, by decide +kernel⟩
theorem fn_law_later (T : Tops K mg) : Fn P w K mg base CX0 2 "_law_later" ["_law_ties", "_law_order_here", "_law_at"] (sp_law_later K) := by
  have h_law_near : Fn P w K mg base CX0 1 "_law_near" _ _ := (fn_law_near T).mono (by decide)
  refine T.d_law_later.fn sc_law_later (fun _ _ _ _ _ _ us hl => match us, hl with | [_, _, _], _ => rfl) (fun vs H Q E h => ?_) (fun f cdv A outer s H vs Q E hr h => ?_)
  · obtain ⟨a, b, xs, n, k, v, ts, o, rfl, _⟩ := h; rfl
  · obtain ⟨a, b, xs, n, k, v, ts, o, rfl, la, its, l100, ht, n12, lb, ev, nd, hlt, q⟩ := h
    refine ⟨_, (pss_cons (ps_set (i := 3) sc_law_later.nd rfl (.inr rfl) (pe_lst (pa_cons (pe_ix ix_listK (pv 1) (pv 2) (fun _ _ => rfl)) pa_nil)))
  (pss_cons (ps_set (i := 4) sc_law_later.nd rfl (.inl rfl) pe_int)
  (pss_cons (ps_while PassesOwn.never (pt_cmpR op_lt (pv 4) (pe_callB call_len_seqK (by rfl) T.B.len bo_len (pa_cons (pv 3) pa_nil)) (nomark _))
  (pss_cons (ps_if (PW.pt (pw_or (pt_cmpR op_eq (pv 4) pe_int (nomark _)) (pw_or1 (pt_cmpR op_in_seqK (pe_ix ix_listK (pv 3) (pv 4) (fun _ _ => rfl)) (pe_slice sl_listK (pv 1) po_none (po_some (pv 2))) (by rfl)))))
  (pss_one (ps_expr (pe_bm PySem.F.plainAttrs_list PySem.F.slot_list_extend PySem.F.type_list_extend mt_extend (pv 3) (pa_cons (pe_lc (own := [("_law_w", 5)]) (g := gName 5) rfl sc_law_later.nd (pi_list (pe_fn h_law_near hr pass0 (pa_cons (pv 0) (pa_cons (pe_ix ix_listK (pv 3) (pv 4) (fun _ _ => rfl)) pa_nil)))) (blkOk_by (N := ["_law_ties", "_law_order_here", "_law_at", "_law_seen", "_law_k", "_law_w"]) (sc := defScope s_law_later) (by decide +kernel)) (fun _ _ _ _ _ => (pg_name (i := 5) sc_law_later.nd rfl (.inl rfl))) (fun _ _ _ _ _ => pts_one (pt_cmpR op_notIn_seqK (pv 5) (pv 3) (by rfl))) (fun _ _ _ _ _ => (pv 5))) pa_nil))))
  pss_nil)
  (pss_one (ps_set (i := 4) sc_law_later.nd rfl (.inl rfl) (pe_op op_add (pv 4) pe_int)))))
  (pss_one (ps_ret (pe_lc (own := [("_law_w", 5)]) (g := gName 5) rfl sc_law_later.nd (pi_list (pe_slice sl_listK (pv 1) (po_some (pe_op op_add (pv 2) pe_int)) po_none)) (blkOk_by (N := ["_law_ties", "_law_order_here", "_law_at", "_law_seen", "_law_k", "_law_w"]) (sc := defScope s_law_later) (by decide +kernel)) (fun _ _ _ _ _ => (pg_name (i := 5) sc_law_later.nd rfl (.inl rfl))) (fun _ _ _ _ _ => pts_one (pt_cmpR op_in_seqK (pv 5) (pv 3) (by rfl))) (fun _ _ _ _ _ => (pv 5)))))))), ?_⟩
    repeat' (first
      | exact q
      | refine ⟨_, _, _, _, rfl, rfl, (by assumption), rfl, ?_⟩
      | refine ⟨_, _, _, _, true, rfl, .ty _, (by first | exact .base (.int _) | exact ty_tup (by assumption) | exact ty_lst (by assumption)), kit_ty (by decide +kernel), ?_⟩
      | refine ⟨_, _, _, _, false, rfl, .ty _, (by first | exact .base (.int _) | exact ty_tup (by assumption) | exact ty_lst (by assumption)), kit_ty (by decide +kernel), ?_⟩
      | refine ⟨_, _, rfl, .inr (by assumption), ?_⟩
      | refine ⟨_, _, rfl, .inl (by assumption), ?_⟩
      | refine ⟨_, _, rfl, (by assumption), rfl, ?_⟩
      | refine ⟨_, rfl, ?_⟩
      | refine ⟨_, _, rfl, rfl, ?_⟩
      | refine ⟨Nat.le_of_ble_eq_true rfl, fun p hp => ?_⟩
      | refine ⟨_, _, rfl, ?_⟩
      | refine ⟨rfl, ?_⟩
      | refine ⟨mul_ok4 (by assumption) (by assumption), ?_⟩
      | fail)
    have hk : k < o.length := (List.getElem?_eq_some_iff.mp ev).1
    have hvn := hlt v (List.mem_of_getElem? ev)
    have hsv : ∀ x ∈ o.drop (k + 1), x ≠ v := fun x hx e => by
      obtain ⟨j, hj⟩ := List.getElem?_of_mem hx
      rw [List.getElem?_drop] at hj
      obtain ⟨b1, c1⟩ := List.getElem?_eq_some_iff.mp ev
      obtain ⟨b2, c2⟩ := List.getElem?_eq_some_iff.mp hj
      exact List.pairwise_iff_getElem.mp nd k (k + 1 + j) b1 b2 (by omega) (c1.trans (e.symm.trans c2.symm))
    refine ⟨b, _, _, .int (v : Nat), rfl, rfl, lb, atI_nat (by rw [List.getElem?_map, ev]; rfl), ?_⟩
    repeat' (first
      | exact q
      | refine ⟨_, _, _, _, rfl, rfl, (by assumption), rfl, ?_⟩
      | refine ⟨_, _, _, _, true, rfl, .ty _, (by first | exact .base (.int _) | exact ty_tup (by assumption) | exact ty_lst (by assumption)), kit_ty (by decide +kernel), ?_⟩
      | refine ⟨_, _, _, _, false, rfl, .ty _, (by first | exact .base (.int _) | exact ty_tup (by assumption) | exact ty_lst (by assumption)), kit_ty (by decide +kernel), ?_⟩
      | refine ⟨_, _, rfl, .inr (by assumption), ?_⟩
      | refine ⟨_, _, rfl, .inl (by assumption), ?_⟩
      | refine ⟨_, _, rfl, (by assumption), rfl, ?_⟩
      | refine ⟨_, rfl, ?_⟩
      | refine ⟨_, _, rfl, rfl, ?_⟩
      | refine ⟨Nat.le_of_ble_eq_true rfl, fun p hp => ?_⟩
      | refine ⟨_, _, rfl, ?_⟩
      | refine ⟨rfl, ?_⟩
      | refine ⟨mul_ok4 (by assumption) (by assumption), ?_⟩
      | fail)
    revert p
    intro S hS
    have sS := same_new (o := .lst [.int (v : Nat)]) hS
    refine while_by (fun σ H' => ∃ (m : Nat) (seen : List Nat), σ = [some (.ref a), some (.ref b), some (.int k), some (.ref S), some (.int m), none] ∧ Same H H' ∧ H' S = some (.lst (seen.map fun j : Nat => V.int (j : Int))) ∧ Bfs n ts (· ∈ o.take k) v seen m)
      (fun σ _ => match σ with | [_, _, _, _, some (.int m), _] => ((n : Int) - m).toNat | _ => 0) ⟨0, [v], rfl, sS, upd_same, .init hvn⟩ ?_ ?_
    · rintro σ H1 ⟨m, seen, rfl, s1, eS, bf⟩
      have l1 : (seen.map fun j : Nat => V.int (j : Int)).length = seen.length := List.length_map _
      refine ⟨_, rfl, _, rfl, S, _, rfl, .inl (SqL.of eS), _, _, rfl, rfl, _, rfl, ?_⟩
      by_cases hm : m < seen.length
      · refine ite_t (by rw [l1]; omega) ?_
        have eu := List.getElem?_eq_getElem hm
        generalize hu : seen[m] = u at eu
        have bl := bf.len
        have uix : atI (seen.map fun j : Nat => V.int (j : Int)) ((m : Nat) : Int) = some (.int (u : Nat)) := atI_nat (by rw [List.getElem?_map, eu]; rfl)
        -- both ways end here
        have fin : ∀ (H2 : Hp) (seen2 : List Nat), Same H H2 → H2 S = some (.lst (seen2.map fun j : Nat => V.int (j : Int))) → Bfs n ts (· ∈ o.take k) v seen2 (m + 1) →
            ∃ (m' : Nat) (seen : List Nat), [some (V.ref a), some (V.ref b), some (V.int k), some (V.ref S), some (V.int ((m : Int) + 1)), none] = [some (V.ref a), some (V.ref b), some (V.int k), some (V.ref S), some (V.int m'), none] ∧ Same H H2 ∧ H2 S = some (.lst (seen.map fun j : Nat => V.int (j : Int))) ∧ Bfs n ts (· ∈ o.take k) v seen m' :=
          fun H2 seen2 s e b => ⟨m + 1, seen2, rfl, s, e, b⟩
        have ln : (near ts u).length ≤ n := nodup_le (near_nodup ht u) fun x hx => by
          rcases mem_near.mp hx with h | h
          · exact (ht.lt _ h).2
          · have := ht.lt _ h; simp at this; omega
        refine ⟨_, rfl, rfl, _, rfl, ?_⟩
        by_cases h0 : m = 0
        · refine ite_t (by rw [h0]; rfl) ?_
          refine ⟨_, rfl, .inl ⟨rfl, _, SqL.of eS⟩, _, rfl, _, rfl, _, rfl, S, _, _, _, rfl, rfl, SqL.of eS, uix, a, xs, ts, u, rfl, s1.seq la, its.mono s1.tup, l100, fun pN HN sN hN eN => ⟨pN, rfl, ⟨_, SqL.of eN⟩, fun D hD => lc_f (walk_list (xs := (near ts u).map fun j : Nat => V.int (j : Int))) (fun i => decide ((near ts u).getD i 0 ∉ seen)) (PVl fun i => V.int (((near ts u).getD i 0 : Nat) : Int)) PVl.m1 PVl.m2 hD (by rw [List.length_map]; omega) (fun H' s => SqL.of (s _ _ eN)) (fun i x H4 H5 Qy Qn hi s4 yy ky kn => ?_) (fun H4 hacc => ?_)⟩⟩
          · obtain ⟨rfl, ex⟩ := yy
            obtain ⟨j, ej, rfl⟩ := int_at ex
            rw [getD_of ej] at ky kn
            refine ⟨rfl, _, rfl, _, rfl, S, _, rfl, .inl (SqL.of (s4 _ _ (sN _ _ eS))), rfl, flat_nats _, _, rfl, ?_⟩
            rw [if_pos rfl, inV_nats]
            by_cases e : j ∈ seen
            · rw [decide_eq_true e]
              exact kn (by simp [e]) _ (Same.refl _)
            · rw [decide_eq_false e]
              refine ⟨_, rfl, ky (by simp [e]) _ _ (Same.refl _) ?_⟩
              show _ = V.int (((near ts u).getD i 0 : Nat) : Int)
              rw [getD_of ej]
          · obtain ⟨s4, eD⟩ := hacc.vl
            rw [List.length_map, filt_range (near ts u) (fun w => decide (w ∉ seen)) (fun w => V.int ((w : Nat) : Int))] at eD
            have bt := bf.take ht hm eu (.inl h0)
            have lt := bt.len
            rw [List.length_append] at lt
            have e4 := s4 _ _ (sN _ _ eS)
            have s5 := s1.trans (sN.trans s4)
            refine ⟨S, D, _, _, rfl, rfl, e4, eD, ?_, ?_⟩
            · rw [List.length_map, List.length_map, sizeLine_eq]; omega
            · refine ⟨_, rfl, _, _, rfl, rfl, fin _ _ (Same.mut s5 hS) ?_ bt, ?_⟩
              · rw [upd_same, ← List.map_append]
              · show ((n : Int) - ((m : Int) + 1)).toNat < ((n : Int) - (m : Nat)).toNat
                omega
        · refine ite_f (int_ne (by omega)) ?_
          refine ⟨_, rfl, _, rfl, S, _, _, _, rfl, rfl, SqL.of eS, uix, _, rfl, _, rfl, _, rfl, b, _, rfl, s1.seq lb, fun pc hpc => ?_⟩
          have sc := same_new (o := .lst (cutV (o.map fun j : Nat => V.int (j : Int)) none (some ((k : Nat) : Int)))) hpc
          have ec : (L2.upd H1 pc (.lst (cutV (o.map fun j : Nat => V.int (j : Int)) none (some ((k : Nat) : Int))))) pc = some (.lst ((o.take k).map fun j : Nat => V.int (j : Int))) := by
            rw [upd_same, cut_take (by rw [List.length_map]; omega), List.map_take]
          have s2 := s1.trans sc
          have eS2 := sc _ _ eS
          generalize L2.upd H1 pc (.lst (cutV (o.map fun j : Nat => V.int (j : Int)) none (some ((k : Nat) : Int)))) = H2 at ec s2 eS2 ⊢
          refine ⟨pc, _, rfl, .inl (SqL.of ec), rfl, flat_nats _, _, rfl, ?_⟩
          rw [if_neg (by decide), inV_nats]
          by_cases hu2 : u ∈ o.take k
          · refine ite_t hu2 ?_
            refine ⟨_, rfl, .inl ⟨rfl, _, SqL.of eS2⟩, _, rfl, _, rfl, _, rfl, S, _, _, _, rfl, rfl, SqL.of eS2, uix, a, xs, ts, u, rfl, s2.seq la, its.mono s2.tup, l100, fun pN HN sN hN eN => ⟨pN, rfl, ⟨_, SqL.of eN⟩, fun D hD => lc_f (walk_list (xs := (near ts u).map fun j : Nat => V.int (j : Int))) (fun i => decide ((near ts u).getD i 0 ∉ seen)) (PVl fun i => V.int (((near ts u).getD i 0 : Nat) : Int)) PVl.m1 PVl.m2 hD (by rw [List.length_map]; omega) (fun H' s => SqL.of (s _ _ eN)) (fun i x H4 H5 Qy Qn hi s4 yy ky kn => ?_) (fun H4 hacc => ?_)⟩⟩
            · obtain ⟨rfl, ex⟩ := yy
              obtain ⟨j, ej, rfl⟩ := int_at ex
              rw [getD_of ej] at ky kn
              refine ⟨rfl, _, rfl, _, rfl, S, _, rfl, .inl (SqL.of (s4 _ _ (sN _ _ eS2))), rfl, flat_nats _, _, rfl, ?_⟩
              rw [if_pos rfl, inV_nats]
              by_cases e : j ∈ seen
              · rw [decide_eq_true e]
                exact kn (by simp [e]) _ (Same.refl _)
              · rw [decide_eq_false e]
                refine ⟨_, rfl, ky (by simp [e]) _ _ (Same.refl _) ?_⟩
                show _ = V.int (((near ts u).getD i 0 : Nat) : Int)
                rw [getD_of ej]
            · obtain ⟨s4, eD⟩ := hacc.vl
              rw [List.length_map, filt_range (near ts u) (fun w => decide (w ∉ seen)) (fun w => V.int ((w : Nat) : Int))] at eD
              have bt := bf.take ht hm eu (.inr hu2)
              have lt := bt.len
              rw [List.length_append] at lt
              have e4 := s4 _ _ (sN _ _ eS2)
              have s5 := s2.trans (sN.trans s4)
              refine ⟨S, D, _, _, rfl, rfl, e4, eD, ?_, ?_⟩
              · rw [List.length_map, List.length_map, sizeLine_eq]; omega
              · refine ⟨_, rfl, _, _, rfl, rfl, fin _ _ (Same.mut s5 hS) ?_ bt, ?_⟩
                · rw [upd_same, ← List.map_append]
                · show ((n : Int) - ((m : Int) + 1)).toNat < ((n : Int) - (m : Nat)).toNat
                  omega
          · refine ite_f hu2 ?_
            refine ⟨_, rfl, _, _, rfl, rfl, fin _ _ s2 eS2 (bf.skip hm h0 eu hu2), ?_⟩
            show ((n : Int) - ((m : Int) + 1)).toNat < ((n : Int) - (m : Nat)).toNat
            omega
      · refine ite_f (by rw [l1]; omega) ?_
        refine ⟨_, rfl, _, rfl, _, _, rfl, rfl, _, rfl, b, _, rfl, s1.seq lb, fun pc hpc => ?_⟩
        have sc := same_new (o := .lst (cutV (o.map fun j : Nat => V.int (j : Int)) (some (((k : Nat) : Int) + 1)) none)) hpc
        have ec : (L2.upd H1 pc (.lst (cutV (o.map fun j : Nat => V.int (j : Int)) (some (((k : Nat) : Int) + 1)) none))) pc = some (.lst ((o.drop (k + 1)).map fun j : Nat => V.int (j : Int))) := by
          rw [upd_same, show (((k : Nat) : Int) + 1) = ((k + 1 : Nat) : Int) from rfl, cut_drop, List.map_drop]
        have s2 := s1.trans sc
        have eS2 := sc _ _ eS
        generalize L2.upd H1 pc (.lst (cutV (o.map fun j : Nat => V.int (j : Int)) (some (((k : Nat) : Int) + 1)) none)) = H2 at ec s2 eS2 ⊢
        have ld : (o.drop (k + 1)).length ≤ 12 := by
          have := nodup_le nd hlt
          rw [List.length_drop]; omega
        refine ⟨pc, rfl, ⟨_, SqL.of ec⟩, fun D hD => lc_f (walk_list (xs := (o.drop (k + 1)).map fun j : Nat => V.int (j : Int))) (fun i => decide ((o.drop (k + 1)).getD i 0 ∈ seen)) (PVl fun i => V.int (((o.drop (k + 1)).getD i 0 : Nat) : Int)) PVl.m1 PVl.m2 hD (by rw [List.length_map]; omega) (fun H' s => SqL.of (s _ _ ec)) (fun i x H4 H5 Qy Qn hi s4 yy ky kn => ?_) (fun H4 hacc => ?_)⟩
        · obtain ⟨rfl, ex⟩ := yy
          obtain ⟨j, ej, rfl⟩ := int_at ex
          rw [getD_of ej] at ky kn
          refine ⟨rfl, _, rfl, _, rfl, S, _, rfl, .inl (SqL.of (s4 _ _ eS2)), rfl, flat_nats _, _, rfl, ?_⟩
          rw [if_neg (by decide), inV_nats]
          by_cases e : j ∈ seen
          · rw [decide_eq_true e]
            refine ⟨_, rfl, ky (by simp [e]) _ _ (Same.refl _) ?_⟩
            show _ = V.int (((o.drop (k + 1)).getD i 0 : Nat) : Int)
            rw [getD_of ej]
          · rw [decide_eq_false e]
            exact kn (by simp [e]) _ (Same.refl _)
        · obtain ⟨s4, eD⟩ := hacc.vl
          rw [List.length_map, filt_range (o.drop (k + 1)) (fun w => decide (w ∈ seen)) (fun w => V.int ((w : Nat) : Int))] at eD
          exact q D H4 _ _ (s2.trans s4) (s2.free hD) eD rfl fun x hx => by rw [decide_eq_true_eq]; exact bf.done (by omega) (hsv x hx)
    · rintro σ H' Q1 Q2 h ⟨v, e, v2, e2, p, ys, r1, r2, i, j, r3, r4, kk, r5, q⟩
      exact ⟨v, e, v2, e2, p, ys, r1, r2, i, j, r3, r4, kk, r5, h _ _ q⟩
/-! ### _law_above -/
def optV (o : Option Nat) : V := match o with | none => .non | some p => .int (p : Nat)
theorem eqv_nil (l : List Nat) : PyData.eqv (.list (l.map fun j : Nat => PyData.int (j : Int))) (.list []) = decide (l = []) := by
  cases l with
  | nil => rfl
  | cons a l => simp [PyData.eqv, PyData.eqvAll]
theorem dp_nats {H : Hp} {p : Addr} {l : List Nat} (h : SqL K H p (l.map fun j : Nat => V.int (j : Int))) : Dp K H (.ref p) (.list (l.map fun j : Nat => PyData.int (j : Int))) := by
  have e1 : (l.map fun j : Nat => V.int (j : Int)) = (l.map fun j : Nat => (j : Int)).map V.int := by rw [List.map_map]; rfl
  have e2 : (l.map fun j : Nat => PyData.int (j : Int)) = (l.map fun j : Nat => (j : Int)).map PyData.int := by rw [List.map_map]; rfl
  rw [e2]
  rw [e1] at h
  exact .lst h (dp_ints _)
theorem shp_nats (l : List Nat) : Shp 2 (.list (l.map fun j : Nat => PyData.int (j : Int))) := Shp.lst (n := 1) fun d hd => by
  obtain ⟨i, _, rfl⟩ := List.mem_map.mp hd
  exact .int _
def sp_law_above (K : PySem.W.Frag) : Sp := fun vs H Q _ => ∃ (a b : Addr) (xs : List V) (n : Nat) (ts : List (Nat × Nat)) (o : List Nat), vs = [.ref a, .ref b] ∧ SqL K H a xs ∧ ImAll K H xs (ts.map tieD) ∧ ts.length ≤ 100 ∧ Ties n ts ∧ n ≤ 12 ∧ NatL K H b o ∧ o.length = n ∧ o.Nodup ∧ (∀ j ∈ o, j < n) ∧
  ∀ p H' (par : Nat → Option Nat), Same H H' → H p = none → H' p = some (.lst ((List.range n).map fun v => optV (par v))) → IsPar ts o par → (∀ v, v ∉ o → par v = none) → (∀ v p, par v = some p → p < n) → Q (.ref p) H'
abbrev s_law_above : Stmt := topS 51
theorem sc_law_above : FnScope ["_law_ties", "_law_order_here", "_law_found", "_law_v", "_law_at", "_law_later_here"] ["_law_ties", "_law_order_here"] (defScope s_law_above) := ⟨rfl, rfl, rfl, by decide +kernel, rfl, by decide +kernel, by decide +kernel⟩
theorem fn_law_above (T : Tops K mg) : Fn P w K mg base CX0 3 "_law_above" ["_law_ties", "_law_order_here"] (sp_law_above K) := by
  have h_law_later : Fn P w K mg base CX0 2 "_law_later" _ _ := (fn_law_later T).mono (by decide)
  refine T.d_law_above.fn sc_law_above (fun _ _ _ _ _ _ us hl => match us, hl with | [_, _], _ => rfl) (fun vs H Q E h => ?_) (fun f cdv A outer s H vs Q E hr h => ?_)
  · obtain ⟨a, b, xs, n, ts, o, rfl, _⟩ := h; rfl
  · obtain ⟨a, b, xs, n, ts, o, rfl, la, its, l100, ht, n12, lb, lo, nd, hlt, q⟩ := h
    refine ⟨_, (pss_cons (ps_setLc (i := 2) (own := [("_law_v", 3)]) (g := gName 3) (tt := tYes) rfl sc_law_above.nd rfl rfl (sw_true rfl rfl rfl (by decide +kernel)) (pi_list (pv 1)) (blkOk_by (N := ["_law_ties", "_law_order_here", "_law_found", "_law_v", "_law_at", "_law_later_here"]) (sc := defScope s_law_above) (by decide +kernel)) (fun _ _ _ _ _ => (pg_name (i := 3) sc_law_above.nd rfl (.inl rfl))) (fun _ _ _ _ _ => pts_nil) (fun _ _ _ _ _ => pe_non))
  (pss_cons (ps_for PassesOwn.never rfl (pi_enum (by rfl) T.B.enumerate (pa_cons (pv 1) pa_nil)) (pg_tup rfl (pgs_cons (pg_name (i := 4) sc_law_above.nd rfl (.inl rfl)) (pgs_cons (pg_name (i := 3) sc_law_above.nd rfl (.inl rfl)) pgs_nil)))
  (pss_cons (ps_set (i := 5) sc_law_above.nd rfl (.inl rfl) (pe_fn h_law_later hr pass0 (pa_cons (pv 0) (pa_cons (pv 1) (pa_cons (pv 4) pa_nil)))))
  (pss_one (ps_if (pt_cmpR (op_neDK hr.units) (pv 5) (pe_lst pa_nil) (nomark _))
  (pss_one (ps_asg (pe_ix ix_listK (pv 5) pe_int (fun _ _ => rfl)) (pg_sub (pv 2) (pv 3) set_list)))
  pss_nil))))
  (pss_one (ps_ret (pv 2))))), ?_⟩
    repeat' (first
      | exact q
      | refine ⟨_, _, _, _, rfl, rfl, (by assumption), rfl, ?_⟩
      | refine ⟨_, _, _, _, true, rfl, .ty _, (by first | exact .base (.int _) | exact ty_tup (by assumption) | exact ty_lst (by assumption)), kit_ty (by decide +kernel), ?_⟩
      | refine ⟨_, _, _, _, false, rfl, .ty _, (by first | exact .base (.int _) | exact ty_tup (by assumption) | exact ty_lst (by assumption)), kit_ty (by decide +kernel), ?_⟩
      | refine ⟨_, _, rfl, .inr (by assumption), ?_⟩
      | refine ⟨_, _, rfl, .inl (by assumption), ?_⟩
      | refine ⟨_, _, rfl, (by assumption), rfl, ?_⟩
      | refine ⟨_, rfl, ?_⟩
      | refine ⟨_, _, rfl, rfl, ?_⟩
      | refine ⟨Nat.le_of_ble_eq_true rfl, fun p hp => ?_⟩
      | refine ⟨_, _, rfl, ?_⟩
      | refine ⟨rfl, ?_⟩
      | refine ⟨mul_ok4 (by assumption) (by assumption), ?_⟩
      | fail)
    refine ⟨⟨_, lb⟩, fun F hF => lc_a (walk_list (xs := o.map fun j : Nat => V.int (j : Int))) (PVl fun _ => .non) PVl.m1 PVl.m2 hF (by rw [List.length_map]; omega) (fun H' s => s.seq lb) (fun i x H1 H2 Qy hi s1 yy k => ?_) (fun H1 hacc => ?_)⟩
    · obtain ⟨rfl, ex⟩ := yy
      exact ⟨rfl, k _ _ (Same.refl _) rfl⟩
    obtain ⟨s1, e1⟩ := hacc.vl
    rw [List.length_map, lo] at e1
    have lol : (o.map fun j : Nat => V.int (j : Int)).length = n := by rw [List.length_map, lo]
    repeat' (first
      | exact q
      | refine ⟨_, _, _, _, rfl, rfl, (by assumption), rfl, ?_⟩
      | refine ⟨_, _, _, _, true, rfl, .ty _, (by first | exact .base (.int _) | exact ty_tup (by assumption) | exact ty_lst (by assumption)), kit_ty (by decide +kernel), ?_⟩
      | refine ⟨_, _, _, _, false, rfl, .ty _, (by first | exact .base (.int _) | exact ty_tup (by assumption) | exact ty_lst (by assumption)), kit_ty (by decide +kernel), ?_⟩
      | refine ⟨_, _, rfl, .inr (by assumption), ?_⟩
      | refine ⟨_, _, rfl, .inl (by assumption), ?_⟩
      | refine ⟨_, _, rfl, (by assumption), rfl, ?_⟩
      | refine ⟨_, rfl, ?_⟩
      | refine ⟨_, _, rfl, rfl, ?_⟩
      | refine ⟨Nat.le_of_ble_eq_true rfl, fun p hp => ?_⟩
      | refine ⟨_, _, rfl, ?_⟩
      | refine ⟨rfl, ?_⟩
      | refine ⟨mul_ok4 (by assumption) (by assumption), ?_⟩
      | fail)
    refine ⟨b, _, rfl, s1.seq lb, for_it (walk_enum (xs := o.map fun j : Nat => V.int (j : Int))) (fun k σ H' => ∃ x3 x4 x5, σ = [some (.ref a), some (.ref b), some (.ref F), x3, x4, x5] ∧ Same H H' ∧ ∃ par : Nat → Option Nat, H' F = some (.lst ((List.range n).map fun v => optV (par v))) ∧
      (∀ p v r, o = p ++ v :: r → p.length < k → ∃ l : List Nat, (∃ q : Nat → Bool, l = r.filter q ∧ ∀ x ∈ r, (q x = true ↔ Conn (Tie ts) (· ∈ p) v x)) ∧ par v = l.head?) ∧ (∀ v, v ∉ o.take k → par v = none) ∧ (∀ v p, par v = some p → p < n))
      ⟨none, none, none, rfl, s1, fun _ => none, e1, fun p v r _ h => by omega, fun _ _ => rfl, fun _ _ e => nomatch e⟩ (fun k σ H' _ ⟨_, _, _, _, s', _⟩ => s'.seq lb) ?_ ?_⟩
    · rintro k x σ H2 H3 hk ⟨x3, x4, x5, rfl, s2, par, eF, h1, h2, h3⟩ ⟨T1, x0, y0, rfl, hT, rfl, ex, ey⟩
      cases ex
      obtain ⟨v, ev, rfl⟩ := int_at ey
      have hko : k < o.length := by rw [List.length_map] at hk; exact hk
      have hvn := hlt v (List.mem_of_getElem? ev)
      have t1 := same_new (o := .tup [.int (k : Nat), .int (v : Nat)]) hT
      have s3 := s2.trans t1
      have eo : o = o.take k ++ v :: o.drop (k + 1) := by
        have ed : o.drop k = v :: o.drop (k + 1) := by
          rw [List.drop_eq_getElem_cons hko]
          congr 1
          rw [List.getElem?_eq_getElem hko] at ev
          exact Option.some.inj ev
        rw [← ed, List.take_append_drop]
      have lp : (o.take k).length = k := by rw [List.length_take]; omega
      have hvk : v ∉ o.take k := fun hm => by
        obtain ⟨j, hj⟩ := List.getElem?_of_mem hm
        rw [List.getElem?_take] at hj
        split at hj
        · rename_i hjk
          obtain ⟨b1, c1⟩ := List.getElem?_eq_some_iff.mp hj
          obtain ⟨b2, c2⟩ := List.getElem?_eq_some_iff.mp ev
          exact List.pairwise_iff_getElem.mp nd j k b1 b2 hjk (c1.trans c2.symm)
        · cases hj
      have tk : o.take (k + 1) = o.take k ++ [v] := by rw [List.take_succ, ev]; rfl
      refine ⟨_, _, rfl, TT.of upd_same, rfl, _, _, rfl, _, _, rfl, rfl, ?_⟩
      refine ⟨_, rfl, _, rfl, _, rfl, a, b, xs, n, k, v, ts, o, rfl, s3.seq la, its.mono s3.tup, l100, ht, n12, s3.seq lb, ev, nd, hlt, fun p H4 l qf s4 hp el hl hq => ?_⟩
      have s5 := s3.trans s4
      have eF4 := s4 _ _ (t1 _ _ eF)
      have ll : ∀ j ∈ l, j < n := fun j hj => by
        rw [hl] at hj
        exact hlt j (List.mem_of_mem_drop (List.mem_filter.mp hj).1)
      -- the last of all ways
      have fin : ∀ (par' : Nat → Option Nat), (∀ x, par' x = if x = v then l.head? else par x) →
          (∀ p v r, o = p ++ v :: r → p.length < k + 1 → ∃ l : List Nat, (∃ q : Nat → Bool, l = r.filter q ∧ ∀ x ∈ r, (q x = true ↔ Conn (Tie ts) (· ∈ p) v x)) ∧ par' v = l.head?) ∧ (∀ v, v ∉ o.take (k + 1) → par' v = none) ∧ (∀ v p, par' v = some p → p < n) := fun par' hpar => by
        refine ⟨fun p' v' r' e' hle => ?_, fun x hx => ?_, fun x p' e => ?_⟩
        · rcases Nat.lt_or_eq_of_le (Nat.le_of_lt_succ hle) with hlt' | heq
          · obtain ⟨l', hl', e2⟩ := h1 p' v' r' e' hlt'
            refine ⟨l', hl', ?_⟩
            rw [hpar, if_neg ?_]
            · exact e2
            · intro z
              have : v' ∈ o.take k := by
                rw [e', List.take_append, List.mem_append]
                right
                rw [show k - p'.length = (k - p'.length - 1) + 1 by omega, List.take_succ_cons]
                exact List.mem_cons_self
              rw [z] at this
              exact hvk this
          · have z := List.append_inj (e'.symm.trans eo) (by rw [heq, lp])
            obtain ⟨z1, z2⟩ := z
            cases z2
            rw [z1]
            exact ⟨l, ⟨qf, hl, hq⟩, by rw [hpar, if_pos rfl]⟩
        · rw [tk, List.mem_append, List.mem_singleton, not_or] at hx
          rw [hpar, if_neg hx.2]
          exact h2 x hx.1
        · rw [hpar] at e
          by_cases hx : x = v
          · rw [if_pos hx] at e
            exact ll p' (List.mem_of_mem_head? e)
          · rw [if_neg hx] at e
            exact h3 x p' e
      refine ⟨_, rfl, Nat.le_of_ble_eq_true rfl, fun pe hpe => ?_⟩
      have se := same_new (o := .lst []) hpe
      refine ⟨_, _, dp_nats (SqL.of (se _ _ el)), .lst (SqL.of upd_same) .nil, (shp_nats l).shaped (by decide), rfl, _, rfl, ?_⟩
      rw [eqv_nil]
      have eF5 := se _ _ eF4
      by_cases hn : l = []
      · rw [decide_eq_true hn]
        refine ⟨_, _, _, rfl, s5.trans se, par, eF5, fin par fun x => ?_⟩
        by_cases hx : x = v
        · rw [if_pos hx, hn, hx]
          exact h2 v hvk
        · rw [if_neg hx]
      · rw [decide_eq_false hn]
        obtain ⟨c, l', rfl⟩ := List.exists_cons_of_ne_nil hn
        refine ⟨_, rfl, p, _, 0, .int (c : Nat), rfl, rfl, SqL.of (se _ _ el), atI_nat (j := 0) rfl, _, rfl, _, rfl, F, _, (v : Nat), v, rfl, rfl, eF5, ?_, _, _, _, rfl, Same.mut (s5.trans se) hF, fun x => if x = v then some c else par x, ?_, fin _ fun x => rfl⟩
        · unfold ixN
          rw [if_pos (by omega), List.length_map, List.length_range, if_pos (by omega)]; rfl
        · rw [upd_same]
          congr 2
          apply List.ext_getElem?
          intro j
          by_cases hj : j = v
          · subst hj
            rw [List.getElem?_set_self (by rw [List.length_map, List.length_range]; exact hvn), List.getElem?_map, range_get hvn]
            simp [optV]
          · rw [List.getElem?_set_ne (Ne.symm hj), List.getElem?_map, List.getElem?_map]
            by_cases hjn : j < n
            · rw [range_get hjn]
              simp [hj]
            · rw [List.getElem?_eq_none (by simpa using hjn)]
              rfl
    · rintro σ H2 ⟨x3, x4, x5, rfl, s2, par, eF, h1, h2, h3⟩
      rw [lol] at h1 h2
      refine ⟨_, rfl, q F H2 par s2 hF eF (fun p v r e => h1 p v r e ?_) (fun v hv => h2 v (fun hm => hv (List.mem_of_mem_take hm))) h3⟩
      rw [← lo, e, List.length_append, List.length_cons]; omega
end
end FW
end

/-! ## W10 -/
section
set_option Elab.async false
set_option linter.all false
set_option maxRecDepth 100000
set_option maxHeartbeats 4000000
namespace FW
open PySem PySem.Spec PyProof.Rows L2 FF
section
variable {P : Program} {w : World} {K : PySem.W.Frag} {mg : Str → Option Value} {base : Heap}
theorem inV_opts (u : Nat) (l : List (Option Nat)) : inV (.int (u : Nat)) (l.map optV) = decide (some u ∈ l) := by
  unfold inV
  rw [List.any_map, Bool.eq_iff_iff, List.any_eq_true, decide_eq_true_eq]
  constructor
  · rintro ⟨x, hx, e⟩
    cases x with
    | none => simp [eqV, optV] at e
    | some p =>
      have : ((p : Nat) : Int) = (u : Nat) := by simpa [eqV, optV] using e
      have : p = u := by omega
      rw [← this]; exact hx
  · intro h
    exact ⟨some u, h, by simp [eqV, optV]⟩
theorem flat_opts (l : List (Option Nat)) : (l.map optV).all flatV = true := by
  rw [List.all_map, List.all_eq_true]
  intro x _; cases x <;> rfl
theorem walk_r {n : Nat} : Walk (Itr 0 n) n (fun _ => True) (YFn fun i => .int ((i : Nat) : Int)) := ⟨fun _ _ hi _ => hi, fun _ _ => Nat.le_refl _, fun i _ _ _ _ _ y => ⟨y.1, by rw [y.2]; congr 1; omega⟩⟩
def sp_law_keeping (K : PySem.W.Frag) : Sp := fun vs H Q _ => ∃ (p a : Addr) (n : Nat) (ts : List (Nat × Nat)) (o : List Nat) (par : Nat → Option Nat), vs = [.ref p, .ref a] ∧ Pen H p ∧ SqL K H a ((List.range n).map fun v => optV (par v)) ∧ a ≠ p ∧ n ≤ 12 ∧ Tree (Tie ts) o par ∧ o.Nodup ∧ o.Perm (List.range n) ∧
  ∀ F H' (o' : List Nat), Kp [p] H H' → Pen H' p → H F = none → H' F = some (.lst (o'.map fun j : Nat => V.int (j : Int))) → Keep n par o' → o'.length = n → Q (.ref F) H'
theorem sqL_kp {H H' : Hp} {a p : Addr} {xs : List V} (h : SqL K H a xs) (k : Kp [p] H H') (hne : a ≠ p) : SqL K H' a xs := by
  rcases h with (h | ⟨o, h⟩) | h
  · exact .inl (.inl (k a _ (by simpa using hne) h))
  · exact .inl (.inr ⟨o, k a _ (by simpa using hne) h⟩)
  · exact .inr h
abbrev s_law_keeping : Stmt := topS 59
theorem sc_law_keeping : FnScope ["_law_pen_here", "_law_above_here", "_law_found", "_law_left", "_law_barred", "_law_ready", "_law_v", "_law_w"] ["_law_pen_here", "_law_above_here"] (defScope s_law_keeping) := ⟨rfl, rfl, rfl, by decide +kernel, rfl, by decide +kernel, by decide +kernel⟩
theorem fn_law_keeping (T : Tops K mg) : Fn P w K mg base CX0 2 "_law_keeping" ["_law_pen_here", "_law_above_here"] (sp_law_keeping K) := by
  have h_law_draw : Fn P w K mg base CX0 1 "_law_draw" _ _ := (fn_law_draw T).mono (by decide)
  refine T.d_law_keeping.fn sc_law_keeping (fun _ _ _ _ _ _ us hl => match us, hl with | [_, _], _ => rfl) (fun vs H Q E h => ?_) (fun f cdv A outer s H vs Q E hr h => ?_)
  · obtain ⟨p, a, n, ts, o, par, rfl, _⟩ := h; rfl
  · obtain ⟨pn, a, n, ts, o, par, rfl, hpn, la, hap, n12, tr, nd, po, q⟩ := h
    refine ⟨_, (pss_cons (ps_set (i := 2) sc_law_keeping.nd rfl (.inr rfl) (pe_lst pa_nil))
  (pss_cons (ps_while PassesOwn.never (pt_cmpR op_lt (pe_callB call_len_seqK (by rfl) T.B.len bo_len (pa_cons (pv 2) pa_nil)) (pe_callB call_len_seqK (by rfl) T.B.len bo_len (pa_cons (pv 1) pa_nil)) (nomark _))
  (pss_cons (ps_setLc (i := 3) (own := [("_law_v", 6)]) (g := gName 6) rfl sc_law_keeping.nd rfl rfl (sw_true rfl rfl rfl (by decide +kernel)) (pi_range1 (by rfl) T.B.range (pa_cons (pe_callB call_len_seqK (by rfl) T.B.len bo_len (pa_cons (pv 1) pa_nil)) pa_nil)) (blkOk_by (N := ["_law_pen_here", "_law_above_here", "_law_found", "_law_left", "_law_barred", "_law_ready", "_law_v", "_law_w"]) (sc := defScope s_law_keeping) (by decide +kernel)) (fun _ _ _ _ _ => (pg_name (i := 6) sc_law_keeping.nd rfl (.inl rfl))) (fun _ _ _ _ _ => pts_one (pt_cmpR op_notIn_seqK (pv 6) (pv 2) (by rfl))) (fun _ _ _ _ _ => (pv 6)))
  (pss_cons (ps_set (i := 4) sc_law_keeping.nd rfl (.inr rfl) (pe_lc (own := [("_law_w", 7)]) (g := gName 7) (tt := tYes) rfl sc_law_keeping.nd (pi_list (pv 3)) (blkOk_by (N := ["_law_pen_here", "_law_above_here", "_law_found", "_law_left", "_law_barred", "_law_ready", "_law_v", "_law_w"]) (sc := defScope s_law_keeping) (by decide +kernel)) (fun _ _ _ _ _ => (pg_name (i := 7) sc_law_keeping.nd rfl (.inl rfl))) (fun _ _ _ _ _ => pts_nil) (fun _ _ _ _ _ => (pe_ix ix_listK (pv 1) (pv 7) (fun _ _ => rfl)))))
  (pss_cons (ps_setLc (i := 5) (own := [("_law_v", 6)]) (g := gName 6) rfl sc_law_keeping.nd rfl rfl (sw_true rfl rfl rfl (by decide +kernel)) (pi_list (pv 3)) (blkOk_by (N := ["_law_pen_here", "_law_above_here", "_law_found", "_law_left", "_law_barred", "_law_ready", "_law_v", "_law_w"]) (sc := defScope s_law_keeping) (by decide +kernel)) (fun _ _ _ _ _ => (pg_name (i := 6) sc_law_keeping.nd rfl (.inl rfl))) (fun _ _ _ _ _ => pts_one (pt_cmpR op_notIn_seqK (pv 6) (pv 4) (by rfl))) (fun _ _ _ _ _ => (pv 6)))
  (pss_one (ps_expr (pe_bm PySem.F.plainAttrs_list PySem.F.slot_list_append PySem.F.type_list_append mt_append (pv 2) (pa_cons (pe_ix ix_listK (pv 5) (pe_fn h_law_draw hr pass0 (pa_cons (pv 0) (pa_cons (pe_callB call_len_seqK (by rfl) T.B.len bo_len (pa_cons (pv 5) pa_nil)) pa_nil))) (fun _ _ => rfl)) pa_nil))))))))
  (pss_one (ps_ret (pv 2))))), ?_⟩
    repeat' (first
      | exact q
      | refine ⟨_, _, _, _, rfl, rfl, (by assumption), rfl, ?_⟩
      | refine ⟨_, _, _, _, true, rfl, .ty _, (by first | exact .base (.int _) | exact ty_tup (by assumption) | exact ty_lst (by assumption)), kit_ty (by decide +kernel), ?_⟩
      | refine ⟨_, _, _, _, false, rfl, .ty _, (by first | exact .base (.int _) | exact ty_tup (by assumption) | exact ty_lst (by assumption)), kit_ty (by decide +kernel), ?_⟩
      | refine ⟨_, _, rfl, .inr (by assumption), ?_⟩
      | refine ⟨_, _, rfl, .inl (by assumption), ?_⟩
      | refine ⟨_, _, rfl, (by assumption), rfl, ?_⟩
      | refine ⟨_, rfl, ?_⟩
      | refine ⟨_, _, rfl, rfl, ?_⟩
      | refine ⟨Nat.le_of_ble_eq_true rfl, fun p hp => ?_⟩
      | refine ⟨_, _, rfl, ?_⟩
      | refine ⟨rfl, ?_⟩
      | refine ⟨mul_ok4 (by assumption) (by assumption), ?_⟩
      | fail)
    revert p
    intro F hF
    have hFn : F ≠ pn := fun z => by obtain ⟨i, j, k, e⟩ := hpn; rw [← z, hF] at e; cases e
    have sF := same_new (o := .lst []) hF
    have lr : ((List.range n).map fun v => optV (par v)).length = n := by simp
    refine while_by (fun σ H' => ∃ (fd : List Nat) (x3 x4 x5 : Option V), σ = [some (.ref pn), some (.ref a), some (.ref F), x3, x4, x5, none, none] ∧ Kp [pn] H H' ∧ Pen H' pn ∧ H' F = some (.lst (fd.map fun j : Nat => V.int (j : Int))) ∧ Keep n par fd)
      (fun σ H' => match H' F with | some (.lst xs) => n - xs.length | _ => 0) ⟨[], none, none, none, rfl, sF.kp, hpn.mono sF, upd_same, .nil⟩ ?_ ?_
    · rintro σ H1 ⟨fd, x3, x4, x5, rfl, k1, p1, eF, kp⟩
      have lf : (fd.map fun j : Nat => V.int (j : Int)).length = fd.length := List.length_map _
      have la1 := sqL_kp la k1 hap
      refine ⟨_, rfl, F, _, rfl, .inl (SqL.of eF), _, rfl, a, _, rfl, .inl la1, _, _, rfl, rfl, _, rfl, ?_⟩
      by_cases hm : fd.length < n
      · refine ite_t (by rw [lf, lr]; omega) ?_
        have hn1 : (((((List.range n).map fun v => optV (par v)).length : Nat) : Int) - 0).toNat = n := by rw [lr]; omega
        have hn2 : ((((List.range n).map fun v => optV (par v)).length : Nat) : Int).toNat = n := by rw [lr]; omega
        refine ⟨_, rfl, a, _, rfl, .inl la1, _, rfl, by rw [lr]; omega, by rw [lr]; omega, fun D1 hD1 => lc_f walk_r (fun k => decide (k ∉ fd)) (PVl fun k => V.int ((k : Nat) : Int)) PVl.m1 PVl.m2 hD1 (by rw [hn2]; omega) (fun _ _ => True.intro) (fun i x H2 H3 Qy Qn hi s2 yy ky kn => ?_) (fun H2 hacc => ?_)⟩
        · obtain ⟨rfl, rfl⟩ := yy
          refine ⟨rfl, _, rfl, _, rfl, F, _, rfl, .inl (SqL.of (s2 _ _ eF)), rfl, flat_nats _, _, rfl, ?_⟩
          rw [if_pos rfl, inV_nats]
          by_cases e : i ∈ fd
          · rw [decide_eq_true e]
            exact kn (by simp [e]) _ (Same.refl _)
          · rw [decide_eq_false e]
            exact ⟨_, rfl, ky (by simp [e]) _ _ (Same.refl _) rfl⟩
        obtain ⟨s2, e2⟩ := hacc.vl
        rw [hn2] at e2
        generalize hL : (List.range n).filter (fun k => decide (k ∉ fd)) = L at e2
        have memL : ∀ v, v ∈ L ↔ v < n ∧ v ∉ fd := fun v => by rw [← hL, List.mem_filter, List.mem_range, decide_eq_true_eq]
        have lL : L.length ≤ 12 := by rw [← hL]; have := List.length_filter_le (fun k => decide (k ∉ fd)) (List.range n); rw [List.length_range] at this; omega
        have la2 := s2.seq la1
        refine ⟨_, rfl, D1, rfl, ⟨_, SqL.of e2⟩, fun D2 hD2 => lc_a (walk_list (xs := L.map fun j : Nat => V.int (j : Int))) (PVl fun i => optV (par (L.getD i 0))) PVl.m1 PVl.m2 hD2 (by rw [List.length_map]; omega) (fun H' s => SqL.of (s _ _ e2)) (fun i x H3 H4 Qy hi s3 yy k => ?_) (fun H3 hacc2 => ?_)⟩
        · obtain ⟨rfl, ex⟩ := yy
          obtain ⟨j, ej, rfl⟩ := int_at ex
          have hj := ((memL j).mp (List.mem_of_getElem? ej)).1
          refine ⟨rfl, _, rfl, _, rfl, a, _, _, _, rfl, rfl, s3.seq la2, atI_nat (by rw [List.getElem?_map, range_get hj]; rfl), k _ _ (Same.refl _) ?_⟩
          show _ = optV (par (L.getD i 0))
          rw [getD_of ej]
        obtain ⟨s3, e3⟩ := hacc2.vl
        have eb : (List.range (L.map fun j : Nat => V.int (j : Int)).length).map (fun i => optV (par (L.getD i 0))) = (L.map par).map optV := by
          rw [List.length_map]
          have := filt_range L (fun _ => true) (fun j => optV (par j))
          rw [List.filter_eq_self.mpr (fun _ _ => rfl), List.filter_eq_self.mpr (fun _ _ => rfl)] at this
          rw [this, List.map_map]; rfl
        rw [eb] at e3
        have e32 := s3 _ _ e2
        refine ⟨_, rfl, D1, rfl, ⟨_, SqL.of e32⟩, fun D3 hD3 => lc_f (walk_list (xs := L.map fun j : Nat => V.int (j : Int))) (fun i => decide (some (L.getD i 0) ∉ L.map par)) (PVl fun i => V.int ((L.getD i 0 : Nat) : Int)) PVl.m1 PVl.m2 hD3 (by rw [List.length_map]; omega) (fun H' s => SqL.of (s _ _ e32)) (fun i x H4 H5 Qy Qn hi s4 yy ky kn => ?_) (fun H4 hacc3 => ?_)⟩
        · obtain ⟨rfl, ex⟩ := yy
          obtain ⟨j, ej, rfl⟩ := int_at ex
          rw [getD_of ej] at ky kn
          refine ⟨rfl, _, rfl, _, rfl, D2, _, rfl, .inl (SqL.of (s4 _ _ e3)), rfl, flat_opts _, _, rfl, ?_⟩
          rw [if_pos rfl, inV_opts]
          by_cases e : some j ∈ L.map par
          · rw [decide_eq_true e]
            exact kn (decide_eq_false (not_not_intro e)) _ (Same.refl _)
          · rw [decide_eq_false e]
            refine ⟨_, rfl, ky (decide_eq_true e) _ _ (Same.refl _) ?_⟩
            show _ = V.int ((L.getD i 0 : Nat) : Int)
            rw [getD_of ej]
        obtain ⟨s4, e4⟩ := hacc3.vl
        rw [List.length_map, filt_range L (fun j => decide (some j ∉ L.map par)) (fun j => V.int ((j : Nat) : Int))] at e4
        generalize hR : L.filter (fun j => decide (some j ∉ L.map par)) = R at e4
        have memR : ∀ x, x ∈ R ↔ x ∈ L ∧ some x ∉ L.map par := fun x => by rw [← hR, List.mem_filter, decide_eq_true_eq]
        have hR0 : 0 < R.length := by
          obtain ⟨x, h1, h2, h3⟩ := Keep.ready (found := fd) tr nd po (kp.left hm)
          have : x ∈ R := (memR x).mpr ⟨(memL x).mpr ⟨h1, h2⟩, fun hm => by
            obtain ⟨w, hw, e⟩ := List.mem_map.mp hm
            obtain ⟨w1, w2⟩ := (memL w).mp hw
            exact h3 w w1 w2 e⟩
          exact List.length_pos_of_mem this
        have s14 := s2.trans (s3.trans s4)
        have lR : R.length ≤ 12 := by rw [← hR]; have := List.length_filter_le (fun j => decide (some j ∉ L.map par)) L; omega
        have lRm : (R.map fun j : Nat => V.int (j : Int)).length = R.length := List.length_map _
        refine ⟨_, rfl, .inl ⟨rfl, _, SqL.of (s14 _ _ eF)⟩, _, rfl, _, rfl, _, rfl, D3, _, rfl, .inl (SqL.of e4), pn, _, rfl, p1.mono s14, by rw [lRm]; omega, by rw [lRm]; omega, ?_⟩
        rintro _ H5 k5 p5 ⟨d, rfl, d0, d1⟩
        rw [lRm] at d1
        have D3n : D3 ≠ pn := fun z => by
          obtain ⟨i, j, l, e⟩ := p1.mono (s2.trans s3)
          rw [← z, hD3] at e; cases e
        have e5 := k5 D3 _ (by simpa using D3n) e4
        have eF5 := k5 F _ (by simpa using hFn) (s14 _ _ eF)
        obtain ⟨dn, hdn⟩ : ∃ m : Nat, d = (m : Int) := ⟨d.toNat, (Int.toNat_of_nonneg d0).symm⟩
        subst hdn
        have hdR : dn < R.length := by omega
        have er := List.getElem?_eq_getElem hdR
        generalize hx : R[dn] = x at er
        obtain ⟨xL, xb⟩ := (memR x).mp (List.mem_of_getElem? er)
        obtain ⟨xn, xf⟩ := (memL x).mp xL
        refine ⟨D3, _, _, .int (x : Nat), rfl, rfl, SqL.of e5, atI_nat (by rw [List.getElem?_map, er]; rfl), F, _, _, rfl, rfl, eF5, small1000 (by rw [lf]; omega), ⟨fd ++ [x], _, _, _, rfl, (k1.trans (s14.kp.trans k5)).mut hF, ?_, ?_, kp.add xn xf fun w hw hwf e => xb (List.mem_map.mpr ⟨w, (memL w).mpr ⟨hw, hwf⟩, e⟩)⟩, ?_⟩
        · obtain ⟨i, j, l, e⟩ := p5
          exact ⟨i, j, l, by rw [upd_ne (Ne.symm hFn)]; exact e⟩
        · rw [upd_same, List.map_append]; rfl
        · simp only [upd_same, eF, List.length_append, List.length_map, List.length_cons, List.length_nil]
          omega
      · refine ite_f (by rw [lf, lr]; omega) ?_
        have := nodup_le kp.nd kp.lt
        exact ⟨_, rfl, q F H1 fd k1 p1 hF eF kp (by omega)⟩
    · rintro σ H' Q1 Q2 h ⟨v, e, p, ys, r1, r2, v2, e2, p2, ys2, r12, r22, i, j, r3, r4, kk, r5, q⟩
      exact ⟨v, e, p, ys, r1, r2, v2, e2, p2, ys2, r12, r22, i, j, r3, r4, kk, r5, h _ _ q⟩
end
end FW
end

/-! ## W11 -/
section
set_option Elab.async false
set_option linter.all false
set_option maxRecDepth 100000
set_option maxHeartbeats 4000000
namespace FW
open PySem PySem.Spec PyProof.Rows L2 FF
theorem units65 {k : Nat} {A : Around} (hr : Room k A) : A.units + 65 < cLine := by have := hr.un; omega
section
variable {P : Program} {w : World} {K : PySem.W.Frag} {mg : Str → Option Value} {base : Heap}
/-- the pairs laid so far -/
def TieL (H : Hp) (xs : List V) (ts : List (Nat × Nat)) : Prop := xs.length = ts.length ∧ ∀ (i : Nat) (x : V) (t : Nat × Nat), xs[i]? = some x → ts[i]? = some t → ∃ T, x = .ref T ∧ H T = some (.tup [.int (t.1 : Nat), .int (t.2 : Nat)])
theorem TieL.mono {H H' : Hp} {xs : List V} {ts : List (Nat × Nat)} (h : TieL H xs ts) (s : Same H H') : TieL H' xs ts := ⟨h.1, fun i x t e1 e2 => by
  obtain ⟨T, e, eT⟩ := h.2 i x t e1 e2
  exact ⟨T, e, s _ _ eT⟩⟩
theorem TieL.im {H : Hp} {xs : List V} {ts : List (Nat × Nat)} (h : TieL H xs ts) : ImAll K H xs (ts.map tieD) := imAll_get (by rw [List.length_map]; exact h.1) fun j y d e1 e2 => by
  rw [List.getElem?_map] at e2
  obtain ⟨t, et, rfl⟩ := Option.map_eq_some_iff.mp e2
  obtain ⟨T, rfl, eT⟩ := h.2 j y t e1 et
  exact .tup (.of eT) (.cons (.int _) (.cons (.int _) .nil))
/-- what is met: all of the rows below k, of row k the first d -/
structure TieM (n : Nat) (rows : List (List Part)) (k d : Nat) (ts : List (Nat × Nat)) : Prop where
  ok : Ties n ts
  mem : ∀ t, t ∈ ts ↔ t.1 < t.2 ∧ ((∃ i < k, ∃ j ∈ plc (rows.getD i []), i ≠ j ∧ t = (min i j, max i j)) ∨ ∃ j ∈ plc ((rows.getD k []).take d), k ≠ j ∧ t = (min k j, max k j))
theorem TieM.nil {n : Nat} {rows : List (List Part)} : TieM n rows 0 0 [] := ⟨⟨by simp, fun t ht => by simp at ht⟩, fun t => ⟨fun h => by simp at h, fun ⟨_, h⟩ => by
  rcases h with ⟨i, hi, _⟩ | ⟨j, hj, _⟩
  · omega
  · simp [plc] at hj⟩⟩
theorem ties_len {n : Nat} {ts : List (Nat × Nat)} (h : Ties n ts) (h7 : n ≤ 7) : ts.length ≤ 64 := by
  have nd : (ts.map fun t => t.1 * 8 + t.2).Nodup := by
    rw [List.Nodup, List.pairwise_map]
    refine List.Pairwise.imp_of_mem (fun {a b} ha hb hne e => hne ?_) h.nd
    have l1 := h.lt a ha
    have l2 := h.lt b hb
    have : a.1 = b.1 ∧ a.2 = b.2 := by omega
    exact Prod.ext this.1 this.2
  have := nodup_le (n := 64) nd fun x hx => by
    obtain ⟨t, ht, rfl⟩ := List.mem_map.mp hx
    have := h.lt t ht
    omega
  simpa using this
theorem TieM.step {n : Nat} {rows : List (List Part)} {k d : Nat} {ts : List (Nat × Nat)} {r : List Part} {pd : Part} (h : TieM n rows k d ts) (er : rows[k]? = some r) (ed : r[d]? = some pd) (t : Nat × Nat) :
    (t.1 < t.2 ∧ ((∃ i < k, ∃ j ∈ plc (rows.getD i []), i ≠ j ∧ t = (min i j, max i j)) ∨ ∃ j ∈ plc ((rows.getD k []).take (d + 1)), k ≠ j ∧ t = (min k j, max k j))) ↔ (t ∈ ts ∨ (k ≠ pd.1 ∧ t = (min k pd.1, max k pd.1))) := by
  have e1 : rows.getD k [] = r := getD_ofG er
  rw [h.mem, e1, List.take_succ, ed]
  unfold plc
  simp only [List.map_append, List.mem_append, Option.toList_some, List.map_cons, List.map_nil, List.mem_singleton]
  constructor
  · rintro ⟨h1, h2 | ⟨j, h3 | rfl, h4, h5⟩⟩
    · exact .inl ⟨h1, .inl h2⟩
    · exact .inl ⟨h1, .inr ⟨j, h3, h4, h5⟩⟩
    · exact .inr ⟨h4, h5⟩
  · rintro (⟨h1, h2 | ⟨j, h3, h4, h5⟩⟩ | ⟨h4, h5⟩)
    · exact ⟨h1, .inl h2⟩
    · exact ⟨h1, .inr ⟨j, .inl h3, h4, h5⟩⟩
    · refine ⟨?_, .inr ⟨pd.1, .inr rfl, h4, h5⟩⟩
      rw [h5]
      show min k pd.1 < max k pd.1
      omega
theorem TieM.skip {n : Nat} {rows : List (List Part)} {k d : Nat} {ts : List (Nat × Nat)} {r : List Part} {pd : Part} (h : TieM n rows k d ts) (er : rows[k]? = some r) (ed : r[d]? = some pd) (hs : k = pd.1 ∨ (min k pd.1, max k pd.1) ∈ ts) : TieM n rows k (d + 1) ts :=
  ⟨h.ok, fun t => by
    rw [h.step er ed]
    constructor
    · exact .inl
    · rintro (h1 | ⟨h1, rfl⟩)
      · exact h1
      · rcases hs with h2 | h2
        · exact absurd h2 h1
        · exact h2⟩
theorem TieM.add {n : Nat} {rows : List (List Part)} {k d : Nat} {ts : List (Nat × Nat)} {r : List Part} {pd : Part} (h : TieM n rows k d ts) (er : rows[k]? = some r) (ed : r[d]? = some pd) (hk : k < n) (hj : pd.1 < n) (h1 : k ≠ pd.1) (h2 : (min k pd.1, max k pd.1) ∉ ts) : TieM n rows k (d + 1) (ts ++ [(min k pd.1, max k pd.1)]) :=
  ⟨⟨List.nodup_append.mpr ⟨h.ok.nd, by simp, fun a ha b hb e => h2 (by rw [← List.mem_singleton.mp hb, ← e]; exact ha)⟩, fun t ht => by
    rcases List.mem_append.mp ht with ht | ht
    · exact h.ok.lt t ht
    · rw [List.mem_singleton.mp ht]
      show min k pd.1 < max k pd.1 ∧ max k pd.1 < n
      omega⟩, fun t => by
    rw [h.step er ed, List.mem_append, List.mem_singleton]
    constructor
    · rintro (h3 | rfl)
      · exact .inl h3
      · exact .inr ⟨h1, rfl⟩
    · rintro (h3 | ⟨_, rfl⟩)
      · exact .inl h3
      · exact .inr rfl⟩
theorem TieM.next {n : Nat} {rows : List (List Part)} {k : Nat} {ts : List (Nat × Nat)} {r : List Part} (h : TieM n rows k r.length ts) (er : rows[k]? = some r) : TieM n rows (k + 1) 0 ts := by
  have e1 : rows.getD k [] = r := getD_ofG er
  refine ⟨h.ok, fun t => ?_⟩
  rw [h.mem, e1, List.take_length]
  constructor
  · rintro ⟨h1, ⟨i, hi, h2⟩ | ⟨j, h3⟩⟩
    · exact ⟨h1, .inl ⟨i, by omega, h2⟩⟩
    · exact ⟨h1, .inl ⟨k, by omega, j, by rw [e1]; exact h3.1, h3.2⟩⟩
  · rintro ⟨h1, ⟨i, hi, j, h2, h3⟩ | ⟨j, h3, _⟩⟩
    · by_cases e : i = k
      · subst e
        rw [e1] at h2
        exact ⟨h1, .inr ⟨j, h2, h3⟩⟩
      · exact ⟨h1, .inl ⟨i, by omega, j, h2, h3⟩⟩
    · simp [plc] at h3
theorem plc_mat {n : Nat} {rows : List (List Part)} (gr : GoodRows n rows) {i j : Nat} (hi : i < n) : j ∈ plc (rows.getD i []) ↔ matOf rows i j ≠ 0 := by
  have hl : i < rows.length := by rw [gr.1]; exact hi
  have er := List.getElem?_eq_getElem hl
  have e1 : rows.getD i [] = rows[i] := getD_ofG er
  have g := gr.2.2 rows[i] (List.getElem_mem hl)
  unfold matOf
  rw [e1]
  constructor
  · intro h
    obtain ⟨p, hp, rfl⟩ := List.mem_map.mp h
    rw [rowF_mem (g.inc.imp fun h => Nat.ne_of_lt h) hp]
    exact (g.good p hp).2
  · intro h
    exact List.mem_map.mpr ⟨_, rowF_ne h, rfl⟩
theorem mat_lt {n : Nat} {rows : List (List Part)} (gr : GoodRows n rows) {i j : Nat} (hi : i < n) (h : matOf rows i j ≠ 0) : j < n := by
  have := (plc_mat gr hi).mpr h
  have hl : i < rows.length := by rw [gr.1]; exact hi
  have er := List.getElem?_eq_getElem hl
  rw [getD_ofG er] at this
  obtain ⟨p, hp, rfl⟩ := List.mem_map.mp this
  exact ((gr.2.2 rows[i] (List.getElem_mem hl)).good p hp).1
theorem TieM.tie {n : Nat} {rows : List (List Part)} {ts : List (Nat × Nat)} (h : TieM n rows n 0 ts) (gr : GoodRows n rows) (i j : Nat) : Tie ts i j ↔ i ≠ j ∧ i < n ∧ j < n ∧ (matOf rows i j ≠ 0 ∨ matOf rows j i ≠ 0) := by
  have key : ∀ a b, (a, b) ∈ ts ↔ a < b ∧ b < n ∧ (matOf rows a b ≠ 0 ∨ matOf rows b a ≠ 0) := fun a b => by
    rw [h.mem]
    constructor
    · rintro ⟨h1, ⟨i, hi, j, hj, hne, e⟩ | ⟨j, hj, _⟩⟩
      · have hm := (plc_mat gr hi).mp hj
        have hjn := mat_lt gr hi hm
        have e1 : a = min i j := congrArg Prod.fst e
        have e2 : b = max i j := congrArg Prod.snd e
        refine ⟨h1, by omega, ?_⟩
        by_cases hij : i < j
        · have : a = i ∧ b = j := by omega
          rw [this.1, this.2]; exact .inl hm
        · have : a = j ∧ b = i := by omega
          rw [this.1, this.2]; exact .inr hm
      · simp [plc] at hj
    · rintro ⟨h1, h2, h3⟩
      refine ⟨h1, .inl ?_⟩
      rcases h3 with h3 | h3
      · exact ⟨a, by omega, b, (plc_mat gr (by omega)).mpr h3, by omega, by
          show (a, b) = _
          rw [Nat.min_eq_left (by omega), Nat.max_eq_right (by omega)]⟩
      · exact ⟨b, by omega, a, (plc_mat gr (by omega)).mpr h3, by omega, by
          show (a, b) = _
          rw [Nat.min_eq_right (by omega), Nat.max_eq_left (by omega)]⟩
  unfold Tie
  rw [key, key]
  constructor
  · rintro (⟨h1, h2, h3⟩ | ⟨h1, h2, h3⟩)
    · exact ⟨by omega, by omega, h2, h3⟩
    · exact ⟨by omega, h2, by omega, h3.symm⟩
  · rintro ⟨h1, h2, h3, h4⟩
    by_cases hij : i < j
    · exact .inl ⟨hij, h3, h4⟩
    · exact .inr ⟨by omega, h2, h4.symm⟩
theorem any_tie (ts : List (Nat × Nat)) (t : Nat × Nat) : ((ts.map tieD).any fun z => PyData.eqv z (tieD t)) = decide (t ∈ ts) := by
  rw [List.any_map, Bool.eq_iff_iff, List.any_eq_true, decide_eq_true_eq]
  have e : ∀ x, PyData.eqv (tieD x) (tieD t) = true ↔ x = t := fun x => by
    show PyData.eqv (.tuple _) (.tuple _) = true ↔ _
    simp only [PyData.eqv, PyData.eqvAll, Bool.and_true, Bool.and_eq_true, beq_iff_eq]
    constructor
    · rintro ⟨h1, h2⟩
      exact Prod.ext (by exact_mod_cast h1) (by exact_mod_cast h2)
    · rintro rfl; exact ⟨rfl, rfl⟩
  constructor
  · rintro ⟨x, hx, h⟩
    rw [← (e x).mp h]; exact hx
  · intro h
    exact ⟨t, h, (e t).mpr rfl⟩
theorem shp_tie (t : Nat × Nat) : Shp 2 (tieD t) := .tup fun d hd => by
  simp only [List.mem_cons, List.not_mem_nil, or_false] at hd
  rcases hd with rfl | rfl <;> exact .int _
theorem shp_ties (ts : List (Nat × Nat)) : Shp 3 (.list (ts.map tieD)) := .lst fun d hd => by
  obtain ⟨t, _, rfl⟩ := List.mem_map.mp hd
  exact shp_tie t
def sp_law_ties_of (K : PySem.W.Frag) : Sp := fun vs H Q _ => ∃ (n : Nat) (v : V) (rows : List (List Part)), vs = [v] ∧ Im K H v (sheetD n rows) ∧ GoodRows n rows ∧ n ≤ 7 ∧
  ∀ p xs H' ts, Same H H' → H p = none → H' p = some (.lst xs) → ImAll K H' xs (ts.map tieD) → Ties n ts → ts.length ≤ 100 → (∀ i j, Tie ts i j ↔ i ≠ j ∧ i < n ∧ j < n ∧ (matOf rows i j ≠ 0 ∨ matOf rows j i ≠ 0)) → Q (.ref p) H'
abbrev s_law_ties_of : Stmt := topS 52
theorem sc_law_ties_of : FnScope ["_law_sheet", "_law_ties", "_law_i", "_law_row", "_law_j", "_law_number_here"] ["_law_sheet"] (defScope s_law_ties_of) := ⟨rfl, rfl, rfl, by decide +kernel, rfl, by decide +kernel, by decide +kernel⟩
theorem fn_law_ties_of (T : Tops K mg) : Fn P w K mg base CX0 1 "_law_ties_of" ["_law_sheet"] (sp_law_ties_of K) := by
  refine T.d_law_ties_of.fn sc_law_ties_of (fun _ _ _ _ _ _ us hl => match us, hl with | [_], _ => rfl) (fun vs H Q E h => ?_) (fun f cdv A outer s H vs Q E hr h => ?_)
  · obtain ⟨n, v, rows, rfl, _⟩ := h; rfl
  · obtain ⟨n, v, rows, rfl, iv, ⟨hl, h12, gr⟩, h7, q⟩ := h
    obtain ⟨a, b, xs, rfl, ta, tb, ixs⟩ := sheet_inv iv
    refine ⟨_, (pss_cons (ps_set (i := 1) sc_law_ties_of.nd rfl (.inl rfl) (pe_lst pa_nil))
  (pss_cons (ps_for PassesOwn.never rfl (pi_enumT (by rfl) T.B.enumerate (pa_cons (pe_ix ix_tupK (pv 0) pe_int (fun _ _ => rfl)) pa_nil)) (pg_tup rfl (pgs_cons (pg_name (i := 2) sc_law_ties_of.nd rfl (.inl rfl)) (pgs_cons (pg_name (i := 3) sc_law_ties_of.nd rfl (.inl rfl)) pgs_nil)))
  (pss_one (ps_for PassesOwn.never rfl (pi_tup (pv 3)) (pg_tup rfl (pgs_cons (pg_name (i := 4) sc_law_ties_of.nd rfl (.inl rfl)) (pgs_cons (pg_name (i := 5) sc_law_ties_of.nd rfl (.inl rfl)) pgs_nil)))
  (pss_one (ps_if (PW.pt (pw_and (pt_cmpR op_ne (pv 2) (pv 4) (nomark _)) (pw_and1 (pt_cmpR (op_notInDK (units65 hr)) (pe_tup (pa_cons (pe_callB (call_min2 rfl) (by rfl) T.B.min bo_min (pa_cons (pv 2) (pa_cons (pv 4) pa_nil))) (pa_cons (pe_callB (call_max2 rfl) (by rfl) T.B.max bo_max (pa_cons (pv 2) (pa_cons (pv 4) pa_nil))) pa_nil))) (pv 1) (by rfl)))))
  (pss_one (ps_expr (pe_bm PySem.F.plainAttrs_list PySem.F.slot_list_append PySem.F.type_list_append mt_append (pv 1) (pa_cons (pe_tup (pa_cons (pe_callB (call_min2 rfl) (by rfl) T.B.min bo_min (pa_cons (pv 2) (pa_cons (pv 4) pa_nil))) (pa_cons (pe_callB (call_max2 rfl) (by rfl) T.B.max bo_max (pa_cons (pv 2) (pa_cons (pv 4) pa_nil))) pa_nil))) pa_nil))))
  pss_nil)))))
  (pss_one (ps_ret (pe_callB cr_sortedPK (by rfl) T.B.sorted bo_sorted (pa_cons (pv 1) pa_nil)))))), ?_⟩
    have lx : xs.length = n := by rw [ixs.length, List.length_map, hl]
    repeat' (first
      | exact q
      | refine ⟨_, _, _, _, rfl, rfl, (by assumption), rfl, ?_⟩
      | refine ⟨_, _, _, _, true, rfl, .ty _, (by first | exact .base (.int _) | exact ty_tup (by assumption) | exact ty_lst (by assumption)), kit_ty (by decide +kernel), ?_⟩
      | refine ⟨_, _, _, _, false, rfl, .ty _, (by first | exact .base (.int _) | exact ty_tup (by assumption) | exact ty_lst (by assumption)), kit_ty (by decide +kernel), ?_⟩
      | refine ⟨_, _, rfl, .inr (by assumption), ?_⟩
      | refine ⟨_, _, rfl, .inl (by assumption), ?_⟩
      | refine ⟨_, _, rfl, (by assumption), rfl, ?_⟩
      | refine ⟨_, rfl, ?_⟩
      | refine ⟨_, _, rfl, rfl, ?_⟩
      | refine ⟨Nat.le_of_ble_eq_true rfl, fun p hp => ?_⟩
      | refine ⟨_, _, rfl, ?_⟩
      | refine ⟨rfl, ?_⟩
      | refine ⟨mul_ok4 (by assumption) (by assumption), ?_⟩
      | fail)
    revert p
    intro M hM
    have s1 := same_new (o := .lst []) hM
    refine ⟨_, _, _, _, rfl, rfl, Same.tt s1 ta, rfl, ?_⟩
    refine ⟨_, xs, rfl, Same.tt s1 tb, for_it walk_enumT (fun k σ H' => ∃ x2 x3 x4 x5, σ = [some (.ref a), some (.ref M), x2, x3, x4, x5] ∧ Same H H' ∧ ∃ ys ts, H' M = some (.lst ys) ∧ TieL H' ys ts ∧ TieM n rows k 0 ts)
      ⟨none, none, none, none, rfl, s1, [], [], upd_same, ⟨rfl, fun i x t e => by simp at e⟩, TieM.nil⟩ (fun k σ H' _ ⟨_, _, _, _, _, s3, _⟩ => Same.tt s3 tb) ?_ ?_⟩
    · rintro k x σ H1 H2 hk ⟨x2, x3, x4, x5, rfl, s3, ys, ts, eM, tl, tm⟩ ⟨T1, x0, y0, rfl, hT, rfl, ex, ey⟩
      cases ex
      obtain ⟨r, er, ir⟩ := imAll_at ixs s3 ey
      have gr1 := gr r (List.mem_of_getElem? er)
      obtain ⟨b2, zs, rfl, lb2, iz⟩ := row_inv ir
      have lz : zs.length = r.length := by rw [iz.length, List.length_map]
      have t1 := same_new (o := .tup [.int (k : Nat), .ref b2]) hT
      have s4 := s3.trans t1
      have hkn : k < n := by omega
      refine ⟨_, _, rfl, TT.of upd_same, rfl, _, _, rfl, _, _, rfl, rfl, ?_⟩
      have eM2 := t1 _ _ eM
      have tl2 := tl.mono t1
      have lb3 := Same.tt t1 lb2
      have iz3 := iz.mono t1.tup
      generalize L2.upd H1 T1 (.tup [.int (k : Nat), .ref b2]) = H2 at s4 eM2 tl2 lb3 iz3 ⊢
      have mobM : ∀ b ∈ [M], Mob H2 b := fun b hb => by rw [List.mem_singleton.mp hb]; exact .inr ⟨_, eM2⟩
      refine ⟨_, rfl, b2, rfl, ⟨_, lb3⟩, for_it (walk_tup (xs := zs)) (fun d σ H' => ∃ x4 x5, σ = [some (.ref a), some (.ref M), some (.int (k : Nat)), some (.ref b2), x4, x5] ∧ Kp [M] H2 H' ∧ ∃ ys ts, H' M = some (.lst ys) ∧ TieL H' ys ts ∧ TieM n rows k d ts)
        ⟨_, _, rfl, .refl, ys, ts, eM2, tl2, tm⟩ (fun d σ H' _ ⟨_, _, _, kk, _⟩ => kk.tt mobM lb3) ?_ ?_⟩
      · rintro d x σ H3 H4 hd ⟨y4, y5, rfl, k3, ys3, ts3, eM3, tl3, tm3⟩ ⟨rfl, ex3⟩
        obtain ⟨p, ep, ip⟩ := imAll_atT iz3 (k3.tup mobM) ex3
        have hj := (gr1.good p (List.mem_of_getElem? ep)).1
        obtain ⟨t, z, rfl, tt, _⟩ := part_inv ip
        have l64 := ties_len tm3.ok h7
        have lys : ys3.length = ts3.length := tl3.1
        refine ⟨_, _, rfl, tt, rfl, _, _, rfl, _, _, rfl, rfl, ?_⟩
        refine ⟨_, rfl, _, rfl, rfl, _, rfl, ?_⟩
        by_cases hkj : k = p.1
        · rw [decide_eq_true (show V.int (k : Nat) = V.int (p.1 : Nat) by rw [← hkj])]
          exact ⟨_, _, rfl, k3, ys3, ts3, eM3, tl3, tm3.skip er ep (.inl hkj)⟩
        · rw [decide_eq_false (int_ne (show ((k : Nat) : Int) ≠ (p.1 : Nat) by omega))]
          have emin : (if ((p.1 : Nat) : Int) < (k : Nat) then ((p.1 : Nat) : Int) else ((k : Nat) : Int)) = ((min k p.1 : Nat) : Int) := by split <;> omega
          have emax : (if ((p.1 : Nat) : Int) > (k : Nat) then ((p.1 : Nat) : Int) else ((k : Nat) : Int)) = ((max k p.1 : Nat) : Int) := by split <;> omega
          refine ⟨_, rfl, _, rfl, _, _, rfl, _, rfl, _, rfl, _, _, rfl, Nat.le_of_ble_eq_true rfl, fun q1 hq1 => ?_⟩
          rw [emin, emax]
          have sq := same_new (o := .tup [.int ((min k p.1 : Nat) : Int), .int ((max k p.1 : Nat) : Int)]) hq1
          have iq : Im K (L2.upd H4 q1 (.tup [.int ((min k p.1 : Nat) : Int), .int ((max k p.1 : Nat) : Int)])) (.ref q1) (tieD (min k p.1, max k p.1)) := .tup (.of upd_same) (.cons (.int _) (.cons (.int _) .nil))
          have eMq := sq _ _ eM3
          have tlq := tl3.mono sq
          generalize L2.upd H4 q1 (.tup [.int ((min k p.1 : Nat) : Int), .int ((max k p.1 : Nat) : Int)]) = H5 at sq iq eMq tlq ⊢
          refine ⟨_, rfl, tieD (min k p.1, max k p.1), ts3.map tieD, iq.dp, .lst (SqL.of eMq) (tlq.im (K := K)).dp, (shp_tie _).shaped (by decide), (shp_ties _).shaped (by decide), _, rfl, ?_⟩
          rw [any_tie]
          by_cases hin : (min k p.1, max k p.1) ∈ ts3
          · rw [decide_eq_true hin]
            exact ⟨_, _, rfl, k3.trans sq.kp, ys3, ts3, eMq, tlq, tm3.skip er ep (.inr hin)⟩
          · rw [decide_eq_false hin]
            refine ⟨_, rfl, .inl ⟨rfl, _, SqL.of eMq⟩, _, rfl, _, rfl, _, _, rfl, _, rfl, _, rfl, _, _, rfl, Nat.le_of_ble_eq_true rfl, fun q2 hq2 => ?_⟩
            rw [emin, emax]
            have sr := same_new (o := .tup [.int ((min k p.1 : Nat) : Int), .int ((max k p.1 : Nat) : Int)]) hq2
            have e2 : (L2.upd H5 q2 (.tup [.int ((min k p.1 : Nat) : Int), .int ((max k p.1 : Nat) : Int)])) q2 = some (.tup [.int ((min k p.1 : Nat) : Int), .int ((max k p.1 : Nat) : Int)]) := upd_same
            have eMr := sr _ _ eMq
            have tlr := tlq.mono sr
            have kr : Kp [M] H2 (L2.upd H5 q2 (.tup [.int ((min k p.1 : Nat) : Int), .int ((max k p.1 : Nat) : Int)])) := k3.trans (sq.trans sr).kp
            generalize L2.upd H5 q2 (.tup [.int ((min k p.1 : Nat) : Int), .int ((max k p.1 : Nat) : Int)]) = H6 at e2 eMr tlr kr ⊢
            have nM : ∀ {T : Addr} {xs : List V}, H6 T = some (.tup xs) → T ≠ M := fun e z => by rw [z, eMr] at e; cases e
            refine ⟨M, ys3, _, rfl, rfl, eMr, small1000 (by omega), _, _, rfl, kr.upd (by simp), ys3 ++ [.ref q2], ts3 ++ [(min k p.1, max k p.1)], upd_same, ⟨by simp [lys], fun i x t e1 e3 => ?_⟩, tm3.add er ep hkn hj hkj hin⟩
            by_cases hi : i < ys3.length
            · rw [List.getElem?_append_left hi] at e1
              rw [List.getElem?_append_left (by omega)] at e3
              obtain ⟨T, h1, h2⟩ := tlr.2 i x t e1 e3
              exact ⟨T, h1, by rw [upd_ne (nM h2)]; exact h2⟩
            · have : i = ys3.length := by
                have := (List.getElem?_eq_some_iff.mp e1).1
                simp at this
                omega
              subst this
              rw [List.getElem?_append_right (Nat.le_refl _)] at e1
              rw [lys, List.getElem?_append_right (Nat.le_refl _)] at e3
              simp at e1 e3
              subst e1 e3
              exact ⟨q2, rfl, by rw [upd_ne (nM e2)]; exact e2⟩
      · rintro σ H3 ⟨y4, y5, rfl, k3, ys3, ts3, eM3, tl3, tm3⟩
        rw [lz] at tm3
        exact ⟨_, _, _, _, rfl, fun b o e => k3 b o (fun hb => by rw [List.mem_singleton.mp hb, hM] at e; cases e) (s4 b o e), ys3, ts3, eM3, tl3, tm3.next er⟩
    · rintro σ H1 ⟨x2, x3, x4, x5, rfl, s3, ys, ts, eM, tl, tm⟩
      rw [lx] at tm
      have hlen := ties_len tm.ok h7
      refine ⟨_, rfl, M, ys, rfl, SqL.of eM, fun x hx => ?_, fun ys2 p perm hp => ?_⟩
      · obtain ⟨i, hi⟩ := List.getElem?_of_mem hx
        have hi2 : i < ts.length := by rw [← tl.1]; exact (List.getElem?_eq_some_iff.mp hi).1
        obtain ⟨T, h1, h2⟩ := tl.2 i x _ hi (List.getElem?_eq_getElem hi2)
        exact ⟨T, _, _, h1, h2⟩
      · obtain ⟨z, e1, e2, hz⟩ := imAll_zip tieD (tl.im (K := K))
        rw [e1] at perm
        obtain ⟨z', hp', e3⟩ := perm_of_map _ perm
        have sp := same_new (o := .lst ys2) hp
        have hpt : (z'.map (·.2)).Perm ts := by rw [e2]; exact hp'.map _
        refine q p ys2 _ (z'.map (·.2)) (s3.trans sp) (s3.free hp) upd_same ?_ ⟨hpt.nodup_iff.mpr tm.ok.nd, fun t ht => tm.ok.lt t (hpt.mem_iff.mp ht)⟩ (by rw [hpt.length_eq]; omega) fun i j => ?_
        · subst e3
          exact (imAll_of tieD fun p hp => hz p (hp'.mem_iff.mp hp)).mono sp.tup
        · rw [← tm.tie ⟨hl, h12, gr⟩ i j]
          unfold Tie
          rw [hpt.mem_iff, hpt.mem_iff]
def sp_law_are_parts (K : PySem.W.Frag) : Sp := fun vs H Q _ => ∃ (v : V) (b : Addr) (r : List Part) (l : List Nat), vs = [v, .ref b] ∧ Im K H v (rowD r) ∧ NatL K H b l ∧ (plc r).Pairwise (· < ·) ∧ (∀ p ∈ r, p.1 ∈ l ∧ p.2 ≠ 0 ∧ Sm p.2) ∧ RetB true H Q
abbrev s_law_are_parts : Stmt := topS 55
theorem sc_law_are_parts : FnScope ["_law_parts", "_law_later_here", "_law_ahead", "_law_part"] ["_law_parts", "_law_later_here"] (defScope s_law_are_parts) := ⟨rfl, rfl, rfl, by decide +kernel, rfl, by decide +kernel, by decide +kernel⟩
theorem fn_law_are_parts (T : Tops K mg) : Fn P w K mg base CX0 3 "_law_are_parts" ["_law_parts", "_law_later_here"] (sp_law_are_parts K) := by
  have h_law_whole : Fn P w K mg base CX0 2 "_law_whole" _ _ := (fn_law_whole T).mono (by decide)
  have h_law_is_number : Fn P w K mg base CX0 2 "_law_is_number" _ _ := (fn_law_is_number T).mono (by decide)
  refine T.d_law_are_parts.fn sc_law_are_parts (fun _ _ _ _ _ _ us hl => match us, hl with | [_, _], _ => rfl) (fun vs H Q E h => ?_) (fun f cdv A outer s H vs Q E hr h => ?_)
  · obtain ⟨v, b, r, l, rfl, _⟩ := h; rfl
  · obtain ⟨v, b, r, l, rfl, iv, lb, inc, hp, q⟩ := h
    obtain ⟨a, xs, rfl, ta, ixs⟩ := row_inv iv
    refine ⟨_, (pss_cons (ps_if (pt_not (pt_val (pe_callB call_isiK1 (by rfl) T.B.isinstance bo_isinstance (pa_cons (pv 0) (pa_cons (pe_bltn (v := .ty "tuple") (by rfl) T.B.tuple bo_tuple rfl) pa_nil)))))
  (pss_one (ps_ret pe_bl))
  pss_nil)
  (pss_cons (ps_set (i := 2) sc_law_are_parts.nd rfl (.inl rfl) (pe_un un_neg pe_int))
  (pss_cons (ps_for PassesOwn.never rfl (pi_tup (pv 0)) (pg_name (i := 3) sc_law_are_parts.nd rfl (.inl rfl))
  (pss_cons (ps_if (PW.pt (pw_or (pt_not (pt_val (pe_callB call_isiK1 (by rfl) T.B.isinstance bo_isinstance (pa_cons (pv 3) (pa_cons (pe_bltn (v := .ty "tuple") (by rfl) T.B.tuple bo_tuple rfl) pa_nil))))) (pw_or (pt_cmpR op_ne (pe_callB call_len_seqK (by rfl) T.B.len bo_len (pa_cons (pv 3) pa_nil)) pe_int (nomark _)) (pw_or (pt_not (pt_val (pe_fn h_law_whole hr pass0 (pa_cons (pe_ix ix_tupK (pv 3) pe_int (fun _ _ => rfl)) pa_nil)))) (pw_or1 (pt_cmpR op_notIn_seqK (pe_ix ix_tupK (pv 3) pe_int (fun _ _ => rfl)) (pv 1) (by rfl)))))))
  (pss_one (ps_ret pe_bl))
  pss_nil)
  (pss_cons (ps_if (PW.pt (pw_or (pt_cmpR op_le (pe_ix ix_tupK (pv 3) pe_int (fun _ _ => rfl)) (pv 2) (nomark _)) (pw_or1 (pt_not (pt_val (pe_fn h_law_is_number hr pass0 (pa_cons (pe_ix ix_tupK (pv 3) pe_int (fun _ _ => rfl)) pa_nil)))))))
  (pss_one (ps_ret pe_bl))
  pss_nil)
  (pss_one (ps_set (i := 2) sc_law_are_parts.nd rfl (.inl rfl) (pe_ix ix_tupK (pv 3) pe_int (fun _ _ => rfl)))))))
  (pss_one (ps_ret pe_bl))))), ?_⟩
    repeat' (first
      | exact q
      | refine ⟨_, _, _, _, rfl, rfl, (by assumption), rfl, ?_⟩
      | refine ⟨_, _, _, _, true, rfl, .ty _, (by first | exact .base (.int _) | exact ty_tup (by assumption) | exact ty_lst (by assumption)), kit_ty (by decide +kernel), ?_⟩
      | refine ⟨_, _, _, _, false, rfl, .ty _, (by first | exact .base (.int _) | exact ty_tup (by assumption) | exact ty_lst (by assumption)), kit_ty (by decide +kernel), ?_⟩
      | refine ⟨_, _, rfl, .inr (by assumption), ?_⟩
      | refine ⟨_, _, rfl, .inl (by assumption), ?_⟩
      | refine ⟨_, _, rfl, (by assumption), rfl, ?_⟩
      | refine ⟨_, rfl, ?_⟩
      | refine ⟨_, _, rfl, rfl, ?_⟩
      | refine ⟨Nat.le_of_ble_eq_true rfl, fun p hp => ?_⟩
      | refine ⟨_, _, rfl, ?_⟩
      | refine ⟨rfl, ?_⟩
      | refine ⟨mul_ok4 (by assumption) (by assumption), ?_⟩
      | fail)
    have lx : xs.length = r.length := by rw [ixs.length, List.length_map]
    have lb' : ∀ {H' : Hp}, Same H H' → SqL K H' b (l.map fun j : Nat => V.int (j : Int)) := fun s => s.seq lb
    refine ⟨⟨_, ta⟩, for_it (walk_tup (xs := xs)) (fun i σ H' => ∃ (ah : Int) (x3 : Option V), σ = [some (.ref a), some (.ref b), some (.int ah), x3] ∧ Same H H' ∧ ∀ p ∈ r.drop i, ah < (p.1 : Nat))
      ⟨-1, none, rfl, Same.refl H, fun p _ => by omega⟩ (fun i σ H' _ ⟨_, _, _, s', _⟩ => Same.tt s' ta) ?_ ?_⟩
    · rintro i x σ H1 H2 hi ⟨ah, x3, rfl, s1, hah⟩ ⟨rfl, ex⟩
      obtain ⟨p, ep, ip⟩ := imAll_at ixs s1 ex
      obtain ⟨t, z, rfl, tt, iz⟩ := part_inv ip
      obtain ⟨g1, g2, g3⟩ := hp p (List.mem_of_getElem? ep)
      have hir : i < r.length := (List.getElem?_eq_some_iff.mp ep).1
      have ed : r.drop i = p :: r.drop (i + 1) := by
        rw [List.drop_eq_getElem_cons hir]
        congr 1
        rw [List.getElem?_eq_getElem hir] at ep
        exact Option.some.inj ep
      have h1 := hah p (by rw [ed]; exact List.mem_cons_self)
      repeat' (first
      | exact q
      | refine ⟨_, _, _, _, rfl, rfl, (by assumption), rfl, ?_⟩
      | refine ⟨_, _, _, _, true, rfl, .ty _, (by first | exact .base (.int _) | exact ty_tup (by assumption) | exact ty_lst (by assumption)), kit_ty (by decide +kernel), ?_⟩
      | refine ⟨_, _, _, _, false, rfl, .ty _, (by first | exact .base (.int _) | exact ty_tup (by assumption) | exact ty_lst (by assumption)), kit_ty (by decide +kernel), ?_⟩
      | refine ⟨_, _, rfl, .inr (by assumption), ?_⟩
      | refine ⟨_, _, rfl, .inl (by assumption), ?_⟩
      | refine ⟨_, _, rfl, (by assumption), rfl, ?_⟩
      | refine ⟨_, rfl, ?_⟩
      | refine ⟨_, _, rfl, rfl, ?_⟩
      | refine ⟨Nat.le_of_ble_eq_true rfl, fun p hp => ?_⟩
      | refine ⟨_, _, rfl, ?_⟩
      | refine ⟨rfl, ?_⟩
      | refine ⟨mul_ok4 (by assumption) (by assumption), ?_⟩
      | fail)
      refine ⟨b, _, rfl, .inl (lb' s1), rfl, flat_nats _, _, rfl, ?_⟩
      rw [if_pos rfl, inV_nats, decide_eq_true g1]
      repeat' (first
      | exact q
      | refine ⟨_, _, _, _, rfl, rfl, (by assumption), rfl, ?_⟩
      | refine ⟨_, _, _, _, true, rfl, .ty _, (by first | exact .base (.int _) | exact ty_tup (by assumption) | exact ty_lst (by assumption)), kit_ty (by decide +kernel), ?_⟩
      | refine ⟨_, _, _, _, false, rfl, .ty _, (by first | exact .base (.int _) | exact ty_tup (by assumption) | exact ty_lst (by assumption)), kit_ty (by decide +kernel), ?_⟩
      | refine ⟨_, _, rfl, .inr (by assumption), ?_⟩
      | refine ⟨_, _, rfl, .inl (by assumption), ?_⟩
      | refine ⟨_, _, rfl, (by assumption), rfl, ?_⟩
      | refine ⟨_, rfl, ?_⟩
      | refine ⟨_, _, rfl, rfl, ?_⟩
      | refine ⟨Nat.le_of_ble_eq_true rfl, fun p hp => ?_⟩
      | refine ⟨_, _, rfl, ?_⟩
      | refine ⟨rfl, ?_⟩
      | refine ⟨mul_ok4 (by assumption) (by assumption), ?_⟩
      | fail)
      refine ite_f (by omega) ?_
      repeat' (first
      | exact q
      | refine ⟨_, _, _, _, rfl, rfl, (by assumption), rfl, ?_⟩
      | refine ⟨_, _, _, _, true, rfl, .ty _, (by first | exact .base (.int _) | exact ty_tup (by assumption) | exact ty_lst (by assumption)), kit_ty (by decide +kernel), ?_⟩
      | refine ⟨_, _, _, _, false, rfl, .ty _, (by first | exact .base (.int _) | exact ty_tup (by assumption) | exact ty_lst (by assumption)), kit_ty (by decide +kernel), ?_⟩
      | refine ⟨_, _, rfl, .inr (by assumption), ?_⟩
      | refine ⟨_, _, rfl, .inl (by assumption), ?_⟩
      | refine ⟨_, _, rfl, (by assumption), rfl, ?_⟩
      | refine ⟨_, rfl, ?_⟩
      | refine ⟨_, _, rfl, rfl, ?_⟩
      | refine ⟨Nat.le_of_ble_eq_true rfl, fun p hp => ?_⟩
      | refine ⟨_, _, rfl, ?_⟩
      | refine ⟨rfl, ?_⟩
      | refine ⟨mul_ok4 (by assumption) (by assumption), ?_⟩
      | fail)
      refine ⟨_, _, rfl, iz, g2, g3, fun H3 s3 => ?_⟩
      have tt3 := Same.tt s3 tt
      repeat' (first
      | exact q
      | refine ⟨_, _, _, _, rfl, rfl, (by assumption), rfl, ?_⟩
      | refine ⟨_, _, _, _, true, rfl, .ty _, (by first | exact .base (.int _) | exact ty_tup (by assumption) | exact ty_lst (by assumption)), kit_ty (by decide +kernel), ?_⟩
      | refine ⟨_, _, _, _, false, rfl, .ty _, (by first | exact .base (.int _) | exact ty_tup (by assumption) | exact ty_lst (by assumption)), kit_ty (by decide +kernel), ?_⟩
      | refine ⟨_, _, rfl, .inr (by assumption), ?_⟩
      | refine ⟨_, _, rfl, .inl (by assumption), ?_⟩
      | refine ⟨_, _, rfl, (by assumption), rfl, ?_⟩
      | refine ⟨_, rfl, ?_⟩
      | refine ⟨_, _, rfl, rfl, ?_⟩
      | refine ⟨Nat.le_of_ble_eq_true rfl, fun p hp => ?_⟩
      | refine ⟨_, _, rfl, ?_⟩
      | refine ⟨rfl, ?_⟩
      | refine ⟨mul_ok4 (by assumption) (by assumption), ?_⟩
      | fail)
      refine ⟨s1.trans s3, fun p' hp' => ?_⟩
      have nd := inc.sublist ((List.drop_sublist i r).map (·.1))
      rw [ed, List.map_cons, List.pairwise_cons] at nd
      have := nd.1 p'.1 (List.mem_map.mpr ⟨p', hp', rfl⟩)
      omega
    · rintro σ H1 ⟨ah, x3, rfl, s1, _⟩
      exact q _ s1
end
end FW
end

/-! ## W12 -/
section
set_option Elab.async false
set_option linter.all false
set_option maxRecDepth 100000
set_option maxHeartbeats 4000000
namespace FW
open PySem PySem.Spec PyProof.Rows L2 FF
section
variable {P : Program} {w : World} {K : PySem.W.Frag} {mg : Str → Option Value} {base : Heap}
structure PartsOk (r : List Part) (l : List Nat) : Prop where
  inc : (plc r).Pairwise (· < ·)
  ok : ∀ p ∈ r, p.1 ∈ l ∧ p.2 ≠ 0 ∧ Sm p.2
structure WorkOk (ws : List W1) (o : List Nat) : Prop where
  len : ws.length = o.length
  w : ∀ k w, ws[k]? = some w → o[k]? = some w.1 ∧ w.2.1 ≠ 0 ∧ Sm w.2.1 ∧ PartsOk w.2.2.1 (o.drop (k + 1)) ∧ PartsOk w.2.2.2 (o.drop (k + 1))
def sp_law_is_work (K : PySem.W.Frag) : Sp := fun vs H Q _ => ∃ (a b : Addr) (ys : List V) (ws : List W1) (o : List Nat), vs = [.ref a, .ref b] ∧ SqL K H a ys ∧ ImAll K H ys (ws.map w1D) ∧ NatL K H b o ∧ WorkOk ws o ∧ RetB true H Q
abbrev s_law_is_work : Stmt := topS 56
theorem sc_law_is_work : FnScope ["_law_work", "_law_order_here", "_law_at", "_law_v", "_law_one"] ["_law_work", "_law_order_here"] (defScope s_law_is_work) := ⟨rfl, rfl, rfl, by decide +kernel, rfl, by decide +kernel, by decide +kernel⟩
theorem fn_law_is_work (T : Tops K mg) : Fn P w K mg base CX0 4 "_law_is_work" ["_law_work", "_law_order_here"] (sp_law_is_work K) := by
  have h_law_are_parts : Fn P w K mg base CX0 3 "_law_are_parts" _ _ := (fn_law_are_parts T).mono (by decide)
  have h_law_whole : Fn P w K mg base CX0 3 "_law_whole" _ _ := (fn_law_whole T).mono (by decide)
  have h_law_is_number : Fn P w K mg base CX0 3 "_law_is_number" _ _ := (fn_law_is_number T).mono (by decide)
  refine T.d_law_is_work.fn sc_law_is_work (fun _ _ _ _ _ _ us hl => match us, hl with | [_, _], _ => rfl) (fun vs H Q E h => ?_) (fun f cdv A outer s H vs Q E hr h => ?_)
  · obtain ⟨a, b, ys, ws, o, rfl, _⟩ := h; rfl
  · obtain ⟨a, b, ys, ws, o, rfl, la, iys, lb, ok, q⟩ := h
    have lys : ys.length = ws.length := by rw [iys.length, List.length_map]
    have lo : (o.map fun j : Nat => V.int (j : Int)).length = o.length := List.length_map _
    have lb0 : SqL K H b (o.map fun j : Nat => V.int (j : Int)) := lb
    refine ⟨_, (pss_cons (ps_if (PW.pt (pw_or (pt_not (pt_val (pe_callB call_isiK1 (by rfl) T.B.isinstance bo_isinstance (pa_cons (pv 0) (pa_cons (pe_bltn (v := .ty "list") (by rfl) T.B.list bo_list rfl) pa_nil))))) (pw_or1 (pt_cmpR op_ne (pe_callB call_len_seqK (by rfl) T.B.len bo_len (pa_cons (pv 0) pa_nil)) (pe_callB call_len_seqK (by rfl) T.B.len bo_len (pa_cons (pv 1) pa_nil)) (nomark _)))))
  (pss_one (ps_ret pe_bl))
  pss_nil)
  (pss_cons (ps_for PassesOwn.never rfl (pi_enum (by rfl) T.B.enumerate (pa_cons (pv 1) pa_nil)) (pg_tup rfl (pgs_cons (pg_name (i := 2) sc_law_is_work.nd rfl (.inl rfl)) (pgs_cons (pg_name (i := 3) sc_law_is_work.nd rfl (.inl rfl)) pgs_nil)))
  (pss_cons (ps_set (i := 4) sc_law_is_work.nd rfl (.inl rfl) (pe_ix ix_listK (pv 0) (pv 2) (fun _ _ => rfl)))
  (pss_cons (ps_if (PW.pt (pw_or (pt_not (pt_val (pe_callB call_isiK1 (by rfl) T.B.isinstance bo_isinstance (pa_cons (pv 4) (pa_cons (pe_bltn (v := .ty "tuple") (by rfl) T.B.tuple bo_tuple rfl) pa_nil))))) (pw_or (pt_cmpR op_ne (pe_callB call_len_seqK (by rfl) T.B.len bo_len (pa_cons (pv 4) pa_nil)) pe_int (nomark _)) (pw_or (pt_not (pt_val (pe_fn h_law_whole hr pass0 (pa_cons (pe_ix ix_tupK (pv 4) pe_int (fun _ _ => rfl)) pa_nil)))) (pw_or1 (pt_cmpR op_ne (pe_ix ix_tupK (pv 4) pe_int (fun _ _ => rfl)) (pv 3) (nomark _)))))))
  (pss_one (ps_ret pe_bl))
  pss_nil)
  (pss_cons (ps_if (PW.pt (pw_or (pt_not (pt_val (pe_fn h_law_is_number hr pass0 (pa_cons (pe_ix ix_tupK (pv 4) pe_int (fun _ _ => rfl)) pa_nil)))) (pw_or1 (pt_not (pt_val (pe_fn h_law_are_parts hr pass0 (pa_cons (pe_ix ix_tupK (pv 4) pe_int (fun _ _ => rfl)) (pa_cons (pe_slice sl_listK (pv 1) (po_some (pe_op op_add (pv 2) pe_int)) po_none) pa_nil))))))))
  (pss_one (ps_ret pe_bl))
  pss_nil)
  (pss_one (ps_if (pt_not (pt_val (pe_fn h_law_are_parts hr pass0 (pa_cons (pe_ix ix_tupK (pv 4) pe_int (fun _ _ => rfl)) (pa_cons (pe_slice sl_listK (pv 1) (po_some (pe_op op_add (pv 2) pe_int)) po_none) pa_nil)))))
  (pss_one (ps_ret pe_bl))
  pss_nil))))))
  (pss_one (ps_ret pe_bl)))), ?_⟩
    repeat' (first
      | exact q
      | refine ⟨_, _, _, _, rfl, rfl, (by assumption), rfl, ?_⟩
      | refine ⟨_, _, _, _, true, rfl, .ty _, (by first | exact .base (.int _) | exact ty_tup (by assumption) | exact ty_lst (by assumption)), kit_ty (by decide +kernel), ?_⟩
      | refine ⟨_, _, _, _, false, rfl, .ty _, (by first | exact .base (.int _) | exact ty_tup (by assumption) | exact ty_lst (by assumption)), kit_ty (by decide +kernel), ?_⟩
      | refine ⟨_, _, rfl, .inr (by assumption), ?_⟩
      | refine ⟨_, _, rfl, .inl (by assumption), ?_⟩
      | refine ⟨_, _, rfl, (by assumption), rfl, ?_⟩
      | refine ⟨_, rfl, ?_⟩
      | refine ⟨_, _, rfl, rfl, ?_⟩
      | refine ⟨Nat.le_of_ble_eq_true rfl, fun p hp => ?_⟩
      | refine ⟨_, _, rfl, ?_⟩
      | refine ⟨rfl, ?_⟩
      | refine ⟨mul_ok4 (by assumption) (by assumption), ?_⟩
      | fail)
    rw [decide_eq_true (show V.int ((ys.length : Nat) : Int) = V.int (((o.map fun j : Nat => V.int (j : Int)).length : Nat) : Int) by rw [lys, lo, ok.len])]
    repeat' (first
      | exact q
      | refine ⟨_, _, _, _, rfl, rfl, (by assumption), rfl, ?_⟩
      | refine ⟨_, _, _, _, true, rfl, .ty _, (by first | exact .base (.int _) | exact ty_tup (by assumption) | exact ty_lst (by assumption)), kit_ty (by decide +kernel), ?_⟩
      | refine ⟨_, _, _, _, false, rfl, .ty _, (by first | exact .base (.int _) | exact ty_tup (by assumption) | exact ty_lst (by assumption)), kit_ty (by decide +kernel), ?_⟩
      | refine ⟨_, _, rfl, .inr (by assumption), ?_⟩
      | refine ⟨_, _, rfl, .inl (by assumption), ?_⟩
      | refine ⟨_, _, rfl, (by assumption), rfl, ?_⟩
      | refine ⟨_, rfl, ?_⟩
      | refine ⟨_, _, rfl, rfl, ?_⟩
      | refine ⟨Nat.le_of_ble_eq_true rfl, fun p hp => ?_⟩
      | refine ⟨_, _, rfl, ?_⟩
      | refine ⟨rfl, ?_⟩
      | refine ⟨mul_ok4 (by assumption) (by assumption), ?_⟩
      | fail)
    refine ⟨b, _, rfl, lb0, for_it (walk_enum (xs := o.map fun j : Nat => V.int (j : Int))) (fun k σ H' => ∃ x2 x3 x4, σ = [some (.ref a), some (.ref b), x2, x3, x4] ∧ Same H H') ⟨none, none, none, rfl, Same.refl H⟩ (fun k σ H' _ ⟨_, _, _, _, s'⟩ => s'.seq lb) ?_ ?_⟩
    · rintro k x σ H1 H2 hk ⟨x2, x3, x4, rfl, s1⟩ ⟨T1, x0, y0, rfl, hT, rfl, ex, ey⟩
      cases ex
      obtain ⟨v, ev, rfl⟩ := int_at ey
      have hko : k < o.length := by omega
      have ewk := List.getElem?_eq_getElem (show k < ws.length by rw [ok.len]; exact hko)
      generalize ws[k]'(by rw [ok.len]; exact hko) = wk at ewk
      obtain ⟨o1, o2, o3, o4, o5⟩ := ok.w k wk ewk
      rw [ev] at o1
      cases o1
      have s2 := s1.trans (same_new (o := .tup [.int (k : Nat), .int (wk.1 : Nat)]) hT)
      have eyk := List.getElem?_eq_getElem (show k < ys.length by have := ok.len; omega)
      obtain ⟨wk', ewk', iw⟩ := imAll_at iys s2 eyk
      rw [ewk] at ewk'
      cases ewk'
      obtain ⟨T2, pv, r, c, eT, tt, ipv, ir, ic⟩ := w1_inv iw
      rw [eT] at eyk
      have sl : ∀ {H' : Hp}, Same H H' → SqL K H' b (o.map fun j : Nat => V.int (j : Int)) := fun s => s.seq lb
      have cut : cutV (o.map fun j : Nat => V.int (j : Int)) (some (((k : Nat) : Int) + 1)) none = (o.drop (k + 1)).map fun j : Nat => V.int (j : Int) := by
        rw [show (((k : Nat) : Int) + 1) = ((k + 1 : Nat) : Int) from rfl, cut_drop, List.map_drop]
      refine ⟨_, _, rfl, TT.of upd_same, rfl, _, _, rfl, _, _, rfl, rfl, ?_⟩
      refine ⟨_, rfl, _, rfl, a, _, _, _, rfl, rfl, s2.seq la, atI_nat eyk, ?_⟩
      generalize L2.upd H1 T1 (.tup [.int (k : Nat), .int (wk.1 : Nat)]) = H2 at s2 tt ipv ir ic ⊢
      repeat' (first
      | exact q
      | refine ⟨_, _, _, _, rfl, rfl, (by assumption), rfl, ?_⟩
      | refine ⟨_, _, _, _, true, rfl, .ty _, (by first | exact .base (.int _) | exact ty_tup (by assumption) | exact ty_lst (by assumption)), kit_ty (by decide +kernel), ?_⟩
      | refine ⟨_, _, _, _, false, rfl, .ty _, (by first | exact .base (.int _) | exact ty_tup (by assumption) | exact ty_lst (by assumption)), kit_ty (by decide +kernel), ?_⟩
      | refine ⟨_, _, rfl, .inr (by assumption), ?_⟩
      | refine ⟨_, _, rfl, .inl (by assumption), ?_⟩
      | refine ⟨_, _, rfl, (by assumption), rfl, ?_⟩
      | refine ⟨_, rfl, ?_⟩
      | refine ⟨_, _, rfl, rfl, ?_⟩
      | refine ⟨Nat.le_of_ble_eq_true rfl, fun p hp => ?_⟩
      | refine ⟨_, _, rfl, ?_⟩
      | refine ⟨rfl, ?_⟩
      | refine ⟨mul_ok4 (by assumption) (by assumption), ?_⟩
      | fail)
      rw [decide_eq_true (show V.int ((wk.1 : Nat) : Int) = V.int ((wk.1 : Nat) : Int) from rfl)]
      repeat' (first
      | exact q
      | refine ⟨_, _, _, _, rfl, rfl, (by assumption), rfl, ?_⟩
      | refine ⟨_, _, _, _, true, rfl, .ty _, (by first | exact .base (.int _) | exact ty_tup (by assumption) | exact ty_lst (by assumption)), kit_ty (by decide +kernel), ?_⟩
      | refine ⟨_, _, _, _, false, rfl, .ty _, (by first | exact .base (.int _) | exact ty_tup (by assumption) | exact ty_lst (by assumption)), kit_ty (by decide +kernel), ?_⟩
      | refine ⟨_, _, rfl, .inr (by assumption), ?_⟩
      | refine ⟨_, _, rfl, .inl (by assumption), ?_⟩
      | refine ⟨_, _, rfl, (by assumption), rfl, ?_⟩
      | refine ⟨_, rfl, ?_⟩
      | refine ⟨_, _, rfl, rfl, ?_⟩
      | refine ⟨Nat.le_of_ble_eq_true rfl, fun p hp => ?_⟩
      | refine ⟨_, _, rfl, ?_⟩
      | refine ⟨rfl, ?_⟩
      | refine ⟨mul_ok4 (by assumption) (by assumption), ?_⟩
      | fail)
      refine ⟨pv, wk.2.1, rfl, ipv, o2, o3, fun H3 s3 => ?_⟩
      have tt3 := Same.tt s3 tt
      repeat' (first
      | exact q
      | refine ⟨_, _, _, _, rfl, rfl, (by assumption), rfl, ?_⟩
      | refine ⟨_, _, _, _, true, rfl, .ty _, (by first | exact .base (.int _) | exact ty_tup (by assumption) | exact ty_lst (by assumption)), kit_ty (by decide +kernel), ?_⟩
      | refine ⟨_, _, _, _, false, rfl, .ty _, (by first | exact .base (.int _) | exact ty_tup (by assumption) | exact ty_lst (by assumption)), kit_ty (by decide +kernel), ?_⟩
      | refine ⟨_, _, rfl, .inr (by assumption), ?_⟩
      | refine ⟨_, _, rfl, .inl (by assumption), ?_⟩
      | refine ⟨_, _, rfl, (by assumption), rfl, ?_⟩
      | refine ⟨_, rfl, ?_⟩
      | refine ⟨_, _, rfl, rfl, ?_⟩
      | refine ⟨Nat.le_of_ble_eq_true rfl, fun p hp => ?_⟩
      | refine ⟨_, _, rfl, ?_⟩
      | refine ⟨rfl, ?_⟩
      | refine ⟨mul_ok4 (by assumption) (by assumption), ?_⟩
      | fail)
      refine ⟨b, _, rfl, sl (s2.trans s3), fun p4 hp4 => ?_⟩
      have s4 := s3.trans (same_new (o := .lst (cutV (o.map fun j : Nat => V.int (j : Int)) (some (((k : Nat) : Int) + 1)) none)) hp4)
      have e4 : (L2.upd H3 p4 (.lst (cutV (o.map fun j : Nat => V.int (j : Int)) (some (((k : Nat) : Int) + 1)) none))) p4 = some (.lst ((o.drop (k + 1)).map fun j : Nat => V.int (j : Int))) := by rw [upd_same, cut]
      generalize L2.upd H3 p4 (.lst (cutV (o.map fun j : Nat => V.int (j : Int)) (some (((k : Nat) : Int) + 1)) none)) = H4 at s4 e4 ⊢
      refine ⟨_, p4, wk.2.2.1, o.drop (k + 1), rfl, ir.mono s4.tup, SqL.of e4, o4.inc, o4.ok, fun H5 s5 => ?_⟩
      have s25 := s4.trans s5
      have tt5 := Same.tt s25 tt
      repeat' (first
      | exact q
      | refine ⟨_, _, _, _, rfl, rfl, (by assumption), rfl, ?_⟩
      | refine ⟨_, _, _, _, true, rfl, .ty _, (by first | exact .base (.int _) | exact ty_tup (by assumption) | exact ty_lst (by assumption)), kit_ty (by decide +kernel), ?_⟩
      | refine ⟨_, _, _, _, false, rfl, .ty _, (by first | exact .base (.int _) | exact ty_tup (by assumption) | exact ty_lst (by assumption)), kit_ty (by decide +kernel), ?_⟩
      | refine ⟨_, _, rfl, .inr (by assumption), ?_⟩
      | refine ⟨_, _, rfl, .inl (by assumption), ?_⟩
      | refine ⟨_, _, rfl, (by assumption), rfl, ?_⟩
      | refine ⟨_, rfl, ?_⟩
      | refine ⟨_, _, rfl, rfl, ?_⟩
      | refine ⟨Nat.le_of_ble_eq_true rfl, fun p hp => ?_⟩
      | refine ⟨_, _, rfl, ?_⟩
      | refine ⟨rfl, ?_⟩
      | refine ⟨mul_ok4 (by assumption) (by assumption), ?_⟩
      | fail)
      refine ⟨b, _, rfl, sl (s2.trans s25), fun p6 hp6 => ?_⟩
      have s6 := s25.trans (same_new (o := .lst (cutV (o.map fun j : Nat => V.int (j : Int)) (some (((k : Nat) : Int) + 1)) none)) hp6)
      have e6 : (L2.upd H5 p6 (.lst (cutV (o.map fun j : Nat => V.int (j : Int)) (some (((k : Nat) : Int) + 1)) none))) p6 = some (.lst ((o.drop (k + 1)).map fun j : Nat => V.int (j : Int))) := by rw [upd_same, cut]
      generalize L2.upd H5 p6 (.lst (cutV (o.map fun j : Nat => V.int (j : Int)) (some (((k : Nat) : Int) + 1)) none)) = H6 at s6 e6 ⊢
      refine ⟨_, p6, wk.2.2.2, o.drop (k + 1), rfl, ic.mono s6.tup, SqL.of e6, o5.inc, o5.ok, fun H7 s7 => ?_⟩
      repeat' (first
      | exact q
      | refine ⟨_, _, _, _, rfl, rfl, (by assumption), rfl, ?_⟩
      | refine ⟨_, _, _, _, true, rfl, .ty _, (by first | exact .base (.int _) | exact ty_tup (by assumption) | exact ty_lst (by assumption)), kit_ty (by decide +kernel), ?_⟩
      | refine ⟨_, _, _, _, false, rfl, .ty _, (by first | exact .base (.int _) | exact ty_tup (by assumption) | exact ty_lst (by assumption)), kit_ty (by decide +kernel), ?_⟩
      | refine ⟨_, _, rfl, .inr (by assumption), ?_⟩
      | refine ⟨_, _, rfl, .inl (by assumption), ?_⟩
      | refine ⟨_, _, rfl, (by assumption), rfl, ?_⟩
      | refine ⟨_, rfl, ?_⟩
      | refine ⟨_, _, rfl, rfl, ?_⟩
      | refine ⟨Nat.le_of_ble_eq_true rfl, fun p hp => ?_⟩
      | refine ⟨_, _, rfl, ?_⟩
      | refine ⟨rfl, ?_⟩
      | refine ⟨mul_ok4 (by assumption) (by assumption), ?_⟩
      | fail)
      exact ⟨_, _, _, rfl, s2.trans (s6.trans s7)⟩
    · rintro σ H1 ⟨x2, x3, x4, rfl, s1⟩
      exact q _ s1
/-! ### _law_comes -/
theorem walk_zipTL {a b : Addr} {xs ys : List V} {n : Nat} (h1 : xs.length = n) (h2 : ys.length = n) : Walk (ItzTL K a b) n (fun H => SqT K H a xs ∧ SqL K H b ys) (YPair (fun i => xs[i]?) (fun i => ys[i]?)) := by
  refine ⟨fun i H hi q => ⟨xs, ys, xs[i]'(by omega), ys[i]'(by omega), q.1, q.2, List.getElem?_eq_getElem _, List.getElem?_eq_getElem _⟩, fun H q => ⟨xs, ys, q.1, q.2, h1, h2⟩, fun i H v H' _ q y => ?_⟩
  obtain ⟨T, x, z, h1, h2, h3, h4, h5⟩ := y
  exact ⟨T, x, z, h1, h2, h3, h4 xs q.1, h5 ys q.2⟩

structure ComesOk (X : Nat → Rat) (r : List Part) (due : Rat) (n : Nat) : Prop where
  b : ∀ p ∈ r, p.1 < n
  sm : ∀ d p, r[d]? = some p → Sm (psum X (r.take d)) ∧ Sm p.2 ∧ Sm (X p.1) ∧ Sm (p.2 * X p.1) ∧ Sm (psum X (r.take (d + 1)))
  eq : psum X r = due
def sp_law_comes (K : PySem.W.Frag) : Sp := fun vs H Q _ => ∃ (v : V) (b c : Addr) (n : Nat) (rows : List (List Part)) (X F : Nat → Rat) (rs : List V), vs = [v, .ref b, .ref c] ∧ Im K H v (sheetD n rows) ∧ rows.length = n ∧ n ≤ 12 ∧ FL K H b n X ∧ SqL K H c rs ∧ rs.length = n ∧ (∀ (i : Nat) (x : V), rs[i]? = some x → Im K H x (numD (F i))) ∧
  (∀ i r, rows[i]? = some r → ComesOk X r (F i) n) ∧ RetB true H Q
abbrev s_law_comes : Stmt := topS 61
theorem sc_law_comes : FnScope ["_law_sheet", "_law_x", "_law_right_here", "_law_row", "_law_due", "_law_here", "_law_j", "_law_number_here"] ["_law_sheet", "_law_x", "_law_right_here"] (defScope s_law_comes) := ⟨rfl, rfl, rfl, by decide +kernel, rfl, by decide +kernel, by decide +kernel⟩
theorem fn_law_comes (T : Tops K mg) : Fn P w K mg base CX0 4 "_law_comes" ["_law_sheet", "_law_x", "_law_right_here"] (sp_law_comes K) := by
  have h_law_plus : Fn P w K mg base CX0 3 "_law_plus" _ _ := (fn_law_plus T).mono (by decide)
  have h_law_times : Fn P w K mg base CX0 3 "_law_times" _ _ := (fn_law_times T).mono (by decide)
  refine T.d_law_comes.fn sc_law_comes (fun _ _ _ _ _ _ us hl => match us, hl with | [_, _, _], _ => rfl) (fun vs H Q E h => ?_) (fun f cdv A outer s H vs Q E hr h => ?_)
  · obtain ⟨v, b, c, n, rows, X, F, rs, rfl, _⟩ := h; rfl
  · obtain ⟨v, b, c, n, rows, X, F, rs, rfl, iv, hl, n12, fl, lc, lrs, irs, ok, q⟩ := h
    obtain ⟨sa, sb, xs, rfl, ta, tb, ixs⟩ := sheet_inv iv
    have lx : xs.length = n := by rw [ixs.length, List.length_map, hl]
    refine ⟨_, (pss_cons (ps_for PassesOwn.never rfl (pi_zipTL (by rfl) T.B.zip (pa_cons (pe_ix ix_tupK (pv 0) pe_int (fun _ _ => rfl)) (pa_cons (pv 2) pa_nil))) (pg_tup rfl (pgs_cons (pg_name (i := 3) sc_law_comes.nd rfl (.inl rfl)) (pgs_cons (pg_name (i := 4) sc_law_comes.nd rfl (.inl rfl)) pgs_nil)))
  (pss_cons (ps_set (i := 5) sc_law_comes.nd rfl (.inl rfl) (pe_tup (pa_cons pe_int (pa_cons pe_int pa_nil))))
  (pss_cons (ps_for PassesOwn.never rfl (pi_tup (pv 3)) (pg_tup rfl (pgs_cons (pg_name (i := 6) sc_law_comes.nd rfl (.inl rfl)) (pgs_cons (pg_name (i := 7) sc_law_comes.nd rfl (.inl rfl)) pgs_nil)))
  (pss_one (ps_set (i := 5) sc_law_comes.nd rfl (.inl rfl) (pe_fn h_law_plus hr pass0 (pa_cons (pv 5) (pa_cons (pe_fn h_law_times hr pass0 (pa_cons (pv 7) (pa_cons (pe_ix ix_listK (pv 1) (pv 6) (fun _ _ => rfl)) pa_nil))) pa_nil))))))
  (pss_one (ps_if (pt_cmpR (op_neDK hr.units) (pv 5) (pv 4) (nomark _))
  (pss_one (ps_ret pe_bl))
  pss_nil)))))
  (pss_one (ps_ret pe_bl))), ?_⟩
    repeat' (first
      | exact q
      | refine ⟨_, _, _, _, rfl, rfl, (by assumption), rfl, ?_⟩
      | refine ⟨_, _, _, _, true, rfl, .ty _, (by first | exact .base (.int _) | exact ty_tup (by assumption) | exact ty_lst (by assumption)), kit_ty (by decide +kernel), ?_⟩
      | refine ⟨_, _, _, _, false, rfl, .ty _, (by first | exact .base (.int _) | exact ty_tup (by assumption) | exact ty_lst (by assumption)), kit_ty (by decide +kernel), ?_⟩
      | refine ⟨_, _, rfl, .inr (by assumption), ?_⟩
      | refine ⟨_, _, rfl, .inl (by assumption), ?_⟩
      | refine ⟨_, _, rfl, (by assumption), rfl, ?_⟩
      | refine ⟨_, rfl, ?_⟩
      | refine ⟨_, _, rfl, rfl, ?_⟩
      | refine ⟨Nat.le_of_ble_eq_true rfl, fun p hp => ?_⟩
      | refine ⟨_, _, rfl, ?_⟩
      | refine ⟨rfl, ?_⟩
      | refine ⟨mul_ok4 (by assumption) (by assumption), ?_⟩
      | fail)
    refine ⟨sb, c, xs, rs, rfl, tb, lc, for_it (walk_zipTL lx lrs) (fun k σ H' => ∃ x3 x4 x5 x6 x7, σ = [some (.ref sa), some (.ref b), some (.ref c), x3, x4, x5, x6, x7] ∧ Same H H')
      ⟨none, none, none, none, none, rfl, Same.refl H⟩ (fun k σ H' _ ⟨_, _, _, _, _, _, s'⟩ => ⟨Same.tt s' tb, s'.seq lc⟩) ?_ ?_⟩
    · rintro k x σ H1 H2 hk ⟨x3, x4, x5, x6, x7, rfl, s1⟩ ⟨T1, x0, y0, rfl, hT, rfl, ex, ey⟩
      have s2 := s1.trans (same_new (o := .tup [x0, y0]) hT)
      obtain ⟨r, er, ir⟩ := imAll_at ixs s2 ex
      have idue := (irs k y0 ey).mono s2.tup
      have ok1 := ok k r er
      obtain ⟨rb, zs, rfl, tr, iz⟩ := row_inv ir
      have lz : zs.length = r.length := by rw [iz.length, List.length_map]
      refine ⟨_, _, rfl, TT.of upd_same, rfl, _, _, rfl, _, _, rfl, rfl, ?_⟩
      generalize L2.upd H1 T1 (.tup [.ref rb, y0]) = H2 at s2 idue tr iz ⊢
      repeat' (first
      | exact q
      | refine ⟨_, _, _, _, rfl, rfl, (by assumption), rfl, ?_⟩
      | refine ⟨_, _, _, _, true, rfl, .ty _, (by first | exact .base (.int _) | exact ty_tup (by assumption) | exact ty_lst (by assumption)), kit_ty (by decide +kernel), ?_⟩
      | refine ⟨_, _, _, _, false, rfl, .ty _, (by first | exact .base (.int _) | exact ty_tup (by assumption) | exact ty_lst (by assumption)), kit_ty (by decide +kernel), ?_⟩
      | refine ⟨_, _, rfl, .inr (by assumption), ?_⟩
      | refine ⟨_, _, rfl, .inl (by assumption), ?_⟩
      | refine ⟨_, _, rfl, (by assumption), rfl, ?_⟩
      | refine ⟨_, rfl, ?_⟩
      | refine ⟨_, _, rfl, rfl, ?_⟩
      | refine ⟨Nat.le_of_ble_eq_true rfl, fun p hp => ?_⟩
      | refine ⟨_, _, rfl, ?_⟩
      | refine ⟨rfl, ?_⟩
      | refine ⟨mul_ok4 (by assumption) (by assumption), ?_⟩
      | fail)
      have s3 := same_new (o := .tup [.int 0, .int 1]) hp
      have i0 : Im K (L2.upd H2 p (.tup [.int 0, .int 1])) (.ref p) (numD 0) := .tup (.of upd_same) (.cons (.int 0) (.cons (.int 1) .nil))
      have tr3 := Same.tt s3 tr
      refine ⟨⟨_, tr3⟩, for_it (walk_tup (xs := zs)) (fun d σ H' => ∃ u x6 x7, σ = [some (.ref sa), some (.ref b), some (.ref c), some (.ref rb), some y0, some u, x6, x7] ∧ Same H2 H' ∧ Im K H' u (numD (psum X (r.take d))))
        ⟨_, _, _, rfl, s3, i0⟩ (fun d σ H' _ ⟨_, _, _, _, s', _⟩ => Same.tt s' tr) ?_ ?_⟩
      · rintro d x σ H3 H4 hd ⟨u, y6, y7, rfl, s4, iu⟩ ⟨rfl, ex4⟩
        obtain ⟨pt, ep, ip⟩ := imAll_at iz s4 ex4
        obtain ⟨t, z, rfl, tt, izn⟩ := part_inv ip
        have hb := ok1.b pt (List.mem_of_getElem? ep)
        obtain ⟨m1, m2, m3, m4, m5⟩ := ok1.sm d pt ep
        obtain ⟨vx, xv, e1, a1, i1⟩ := (fl.mono (s2.trans s4)).get hb
        have eps : psum X (r.take (d + 1)) = psum X (r.take d) + pt.2 * X pt.1 := by
          rw [List.take_succ, ep]; exact psum_snoc X pt _
        refine ⟨_, _, rfl, tt, rfl, _, _, rfl, _, _, rfl, rfl, ?_⟩
        refine ⟨_, rfl, _, rfl, _, rfl, _, rfl, b, vx, _, _, rfl, rfl, SqL.of e1, a1, _, _, pt.2, X pt.1, rfl, izn, i1, m2, m3, True.intro, m4, fun v2 H5 s5 i5 => ?_⟩
        refine ⟨_, _, psum X (r.take d), pt.2 * X pt.1, rfl, iu.mono s5.tup, i5, m1, m4, True.intro, (show Sm (psum X (r.take d) + pt.2 * X pt.1) from by rw [← eps]; exact m5), fun v4 H6 s6 i6 => ?_⟩
        exact ⟨_, _, _, rfl, s4.trans (s5.trans s6), by rw [eps]; exact i6⟩
      · rintro σ H3 ⟨u, y6, y7, rfl, s4, iu⟩
        rw [List.take_of_length_le (by omega), ok1.eq] at iu
        refine ⟨_, rfl, _, rfl, _, _, iu.dp, (idue.mono s4.tup).dp, (shp_num _).shaped (by decide), (shp_num _).shaped (by decide), _, rfl, ?_⟩
        rw [eqv_num, decide_eq_true rfl]
        exact ⟨_, _, _, _, _, rfl, s2.trans s4⟩
    · rintro σ H1 ⟨x3, x4, x5, x6, x7, rfl, s1⟩
      exact q _ s1
/-! ### _law_struck -/
def sp_law_struck (K : PySem.W.Frag) : Sp := fun vs H Q _ => ∃ (v : V) (a : Addr) (n : Nat) (rows : List (List Part)) (o : List Nat), vs = [v, .ref a] ∧ SheetV K H v n rows ∧ NatL K H a o ∧ GoodRows n rows ∧ n ≤ 7 ∧ o.length = n ∧ o.Nodup ∧ (∀ j ∈ o, j < n) ∧ SmRun (matOf rows) o ∧
  (¬ Piv (matOf rows) o → ∀ H', Same H H' → Q .non H') ∧ (Piv (matOf rows) o → RetL K ((work n (matOf rows) o).map w1D) H Q)
theorem none_of {H H' : Hp} {p : Addr} (s : Same H H') (h : H' p = none) : H p = none := by
  cases e : H p with
  | none => rfl
  | some o => exact absurd ((s _ _ e).symm.trans h) (by simp)
theorem pe_fnS {X : Cx} {W : WX} {x : Str} {ps : List Str} {sp : Sp} {k : Nat} {e : Expr} {es : List Expr} {t : TA} {p pos : Pos} (F : Fn X.prog X.w X.K X.mg X.base (L2.CX X.prog X.w) k x ps sp) (hr : Room k X.A) (tk : Takes X W) (ha : PA X (e :: es) t) (hg : Gl X x := by rfl)
    (hdb : (x == ("__debug__" : Str)) = false := by decide) (he : starEach (e :: es) X.env = (false, eval e X.env) :: starEach es X.env := by rfl) (hpl : (backTo pos (starEach es X.env)).any (·.1) = false := by rfl) :
    PE X (.Call (.Name x p) (e :: es) [] pos) (tCallS sp (WE W) t) := by
  obtain ⟨f, fd, a, b, c, d⟩ := F.ex
  exact pe_callS a hr hg b c d (fun σ => passAt tk σ) ha hdb he hpl
abbrev s_law_struck : Stmt := topS 60
theorem sc_law_struck : FnScope ["_law_sheet", "_law_order_here", "_law_found"] ["_law_sheet", "_law_order_here"] (defScope s_law_struck) := ⟨rfl, rfl, rfl, by decide +kernel, rfl, by decide +kernel, by decide +kernel⟩
theorem fn_law_struck (T : Tops K mg) : Fn P w K mg base CX0 10 "_law_struck" ["_law_sheet", "_law_order_here"] (sp_law_struck K) := by
  obtain ⟨C, F, fI, fdI, N⟩ := T.np
  have h_struck : Fn P w K mg base (L2.CX P w) 9 "struck" _ _ := (fn_struck T N).mono (by decide)
  refine T.d_law_struck.fn sc_law_struck (fun _ _ _ _ _ _ us hl => match us, hl with | [_, _], _ => rfl) (fun vs H Q E h => ?_) (fun f cdv A outer s H vs Q E hr h => ?_)
  · obtain ⟨v, a, n, rows, o, rfl, _⟩ := h; rfl
  · obtain ⟨v, a, n, rows, o, rfl, sv, la, gr, h7, hl, nd, hlt, hsm, q1, q2⟩ := h
    refine ⟨_, (pss_cons (ps_set (i := 2) sc_law_struck.nd rfl (.inl rfl) pe_non)
      (pss_cons (ps_try_only (tb := fun W => tAsg (tCallS (sp_struck C K) (WE W) (tCons (tVar 0) (tCons (tCB (fun xs H Q => ∃ p ys, xs = [.ref p] ∧ (SqL K H p ys ∨ SqT K H p ys) ∧ ∀ l, H l = none → Q (.ref l) (L2.upd H l (.lst ys))) (tCons (tVar 1) tNil)) tNil))) (gName 2))
          (ts := fun _ _ _ => tAsg (tC .non) (gName 2)) (Wout := fun _ _ _ _ => False) rfl rfl ⟨rfl, by decide, .inl N.gC⟩ takes0
          (fun W pn xe tk _ => pss_one (ps_set (i := 2) sc_law_struck.nd rfl (.inl rfl) (pe_fnS h_struck hr tk (pa_cons (pv 0) (pa_cons (pe_callTy call_list_ofK (by rfl) T.B.list bo_list (pa_cons (pv 1) pa_nil)) pa_nil)))))
          (fun a oe cls d pn hz hf => pss_one (ps_set (i := 2) sc_law_struck.nd rfl (.inl rfl) pe_non)))
      (pss_one (ps_ret (pv 2))))), ?_⟩
    refine ⟨_, rfl, ?_⟩
    refine ⟨_, rfl, _, _, rfl, .inl la, fun l hl0 => ?_⟩
    have s1 := same_new (o := .lst (o.map fun j : Nat => V.int (j : Int))) hl0
    refine ⟨v, l, n, rows, o, rfl, sv.mono s1.tup, .of upd_same, gr, h7, hl, nd, hlt, hsm, fun hp d H' s' => ?_, fun hp p xs H' s' => ?_⟩
    · refine ⟨true, N.te, fun _ a' ha' => ?_, fun h => by cases h⟩
      exact ⟨_, rfl, q1 hp _ (s1.trans s')⟩
    · exact fun h1 h2 h3 => ⟨_, rfl, q2 hp p xs H' (s1.trans s') (none_of s1 h1) h2 h3⟩
end
end FW
end

/-! ## W13 -/
section
set_option Elab.async false
set_option linter.all false
set_option maxRecDepth 100000
set_option maxHeartbeats 4000000
namespace FW
open PySem PySem.Spec PyProof.Rows L2 FF
section
variable {P : Program} {w : World} {K : PySem.W.Frag} {mg : Str → Option Value} {base : Heap}
theorem pi_enumK {X : Cx} {K : PySem.W.Frag} {e : Expr} {ta : TA} {p pos tpos : Pos} {elts : List Expr} {kk : Nat} (hg : Gl X "enumerate") (hm : X.mg "enumerate" = none) (ha : PA X [e] ta) (hs : starEach [e] X.env = [(false, eval e X.env)] := by rfl) (hK : X.K = K := by rfl) :
    PI X (.Tuple elts kk tpos) (.Call (.Name "enumerate" p) [e] [] pos) (iEnum K ta) := by
  subst hK; exact pi_enum hg hm ha hs
structure GridB (K : PySem.W.Frag) (H : Hp) (n : Nat) (M : Mat) (ds : List Addr) : Prop where
  len : ds.length = n
  nd : ds.Nodup
  at' : ∀ (i : Nat) (d : Addr), ds[i]? = some d → FL K H d n (M i)
theorem GridB.mono {H H' : Hp} {n : Nat} {M : Mat} {ds : List Addr} (h : GridB K H n M ds) (s : Same H H') : GridB K H' n M ds := ⟨h.len, h.nd, fun i d e => (h.at' i d e).mono s⟩
theorem GridB.congr {H : Hp} {n : Nat} {M M' : Mat} {ds : List Addr} (h : GridB K H n M ds) (e : ∀ i j, j < n → M i j = M' i j) : GridB K H n M' ds := ⟨h.len, h.nd, fun i d hd => (h.at' i d hd).congr fun j hj => e i j hj⟩
theorem GridB.mob {H : Hp} {n : Nat} {M : Mat} {ds : List Addr} (h : GridB K H n M ds) : ∀ b ∈ ds, Mob H b := fun b hb => by
  obtain ⟨i, hi⟩ := List.getElem?_of_mem hb
  obtain ⟨xs, e, _⟩ := h.at' i b hi
  exact .inr ⟨xs, e⟩
theorem FL.other {H : Hp} {d d' : Addr} {n : Nat} {F : Nat → Rat} {xs ys : List V} (h : FL K H d' n F) (hne : d' ≠ d) (e : H d = some (.lst xs)) : FL K (L2.upd H d (.lst ys)) d' n F := by
  obtain ⟨zs, e', l, h⟩ := h
  exact ⟨zs, by rw [upd_ne hne]; exact e', l, fun i x ex => (h i x ex).mono (.lst e)⟩
theorem nodup_at {ds : List Addr} (nd : ds.Nodup) {i j : Nat} {d : Addr} (h1 : ds[i]? = some d) (h2 : ds[j]? = some d) : i = j := by
  obtain ⟨b1, c1⟩ := List.getElem?_eq_some_iff.mp h1
  obtain ⟨b2, c2⟩ := List.getElem?_eq_some_iff.mp h2
  rcases Nat.lt_trichotomy i j with z | z | z
  · exact absurd (c1.trans c2.symm) (List.pairwise_iff_getElem.mp nd i j b1 b2 z)
  · exact z
  · exact absurd (c2.trans c1.symm) (List.pairwise_iff_getElem.mp nd j i b2 b1 z)
theorem GridB.set {H : Hp} {n : Nat} {M M' : Mat} {ds : List Addr} {i j : Nat} {d : Addr} {v : V} {q : Rat} (h : GridB K H n M ds) (hd : ds[i]? = some d) (hj : j < n) (iv : Im K H v (numD q)) (hi : ∀ k < n, M' i k = if k = j then q else M i k) (hm : ∀ i', i' ≠ i → ∀ k < n, M' i' k = M i' k) :
    ∃ xs, H d = some (.lst xs) ∧ ixN xs.length ((j : Nat) : Int) = some j ∧ GridB K (L2.upd H d (.lst (xs.set j v))) n M' ds := by
  obtain ⟨xs, e, x, fl⟩ := (h.at' i d hd).set hj iv
  refine ⟨xs, e, x, h.len, h.nd, fun i' d' hd' => ?_⟩
  by_cases z : i' = i
  · subst z
    rw [hd] at hd'
    cases hd'
    exact fl.congr fun k hk => (hi k hk).symm
  · exact ((h.at' i' d' hd').other (fun y => z (nodup_at h.nd hd' (by rw [y]; exact hd))) e).congr fun k hk => (hm i' z k hk).symm
theorem parts_good {n : Nat} {r : List Part} (gr : GoodRow n r) {f : Nat → Rat} (e : ∀ j < n, f j = rowF r j) : parts (List.range n) f = r := by
  have p := perm_row gr List.nodup_range (fun j hj => List.mem_range.mp hj) (fun j hj _ => List.mem_range.mpr hj) e
  refine p.eq_of_pairwise (le := fun a b => a.1 < b.1) (fun a b _ _ h1 h2 => absurd h1 (by omega)) ?_ ?_
  · unfold parts
    rw [List.pairwise_map]
    exact List.pairwise_lt_range.filter _
  · have := gr.inc
    unfold plc at this
    rw [List.pairwise_map] at this
    exact this
abbrev sp_law_multiplied := @sp_put_back
abbrev s_law_multiplied : Stmt := topS 57
theorem sc_law_multiplied : FnScope ["_law_n", "_law_work", "_law_grid", "_law_i", "_law_j", "_law_v", "_law_pivot", "_law_row", "_law_column", "_law_factor", "_law_number_here", "_law_own", "_law_one"] ["_law_n", "_law_work"] (defScope s_law_multiplied) := ⟨rfl, rfl, rfl, by decide +kernel, rfl, by decide +kernel, by decide +kernel⟩
theorem fn_law_multiplied (T : Tops K mg) : Fn P w K mg base CX0 8 "_law_multiplied" ["_law_n", "_law_work"] (sp_law_multiplied K) := by
  have h_law_plus : Fn P w K mg base CX0 7 "_law_plus" _ _ := (fn_law_plus T).mono (by decide)
  have h_law_times : Fn P w K mg base CX0 7 "_law_times" _ _ := (fn_law_times T).mono (by decide)
  refine T.d_law_multiplied.fn sc_law_multiplied (fun _ _ _ _ _ _ us hl => match us, hl with | [_, _], _ => rfl) (fun vs H Q E h => ?_) (fun f cdv A outer s H vs Q E hr h => ?_)
  · obtain ⟨a, n, ys, ws, rows, rfl, _⟩ := h; rfl
  · obtain ⟨a, n, ys, ws, rows, rfl, la, iys, hw, gr, ok, hm, q⟩ := h
    refine ⟨_, (pss_cons (ps_setLc (i := 2) (own := [("_law_i", 3)]) (g := gName 3) (tt := tYes) rfl sc_law_multiplied.nd rfl rfl (sw_true rfl rfl rfl (by decide +kernel)) (pi_range1 (by rfl) T.B.range (pa_cons (pv 0) pa_nil)) (blkOk_by (N := ["_law_n", "_law_work", "_law_grid", "_law_i", "_law_j", "_law_v", "_law_pivot", "_law_row", "_law_column", "_law_factor", "_law_number_here", "_law_own", "_law_one"]) (sc := defScope s_law_multiplied) (by decide +kernel)) (fun _ _ _ _ _ => (pg_name (i := 3) sc_law_multiplied.nd rfl (.inl rfl))) (fun _ _ _ _ _ => pts_nil) (fun _ _ _ _ _ => (pe_lc (own := [("_law_j", 4)]) (g := gName 4) (tt := tYes) rfl sc_law_multiplied.nd (pi_range1 (by rfl) T.B.range (pa_cons (pv 0) pa_nil)) (blkOk_by (by rfl)) (fun _ _ _ _ _ => (pg_name (i := 4) sc_law_multiplied.nd rfl (.inl rfl))) (fun _ _ _ _ _ => pts_nil) (fun _ _ _ _ _ => (pe_tup (pa_cons pe_int (pa_cons pe_int pa_nil)))))))
  (pss_cons (ps_for PassesOwn.never rfl (pi_list (pv 1)) (pg_tup rfl (pgs_cons (pg_name (i := 5) sc_law_multiplied.nd rfl (.inl rfl)) (pgs_cons (pg_name (i := 6) sc_law_multiplied.nd rfl (.inl rfl)) (pgs_cons (pg_name (i := 7) sc_law_multiplied.nd rfl (.inl rfl)) (pgs_cons (pg_name (i := 8) sc_law_multiplied.nd rfl (.inl rfl)) pgs_nil)))))
  (pss_one (ps_for PassesOwn.never rfl (pi_tup (pe_op op_catTK (pe_tup (pa_cons (pe_tup (pa_cons (pv 5) (pa_cons (pe_tup (pa_cons pe_int (pa_cons pe_int pa_nil))) pa_nil))) pa_nil)) (pv 8))) (pg_tup rfl (pgs_cons (pg_name (i := 3) sc_law_multiplied.nd rfl (.inl rfl)) (pgs_cons (pg_name (i := 9) sc_law_multiplied.nd rfl (.inl rfl)) pgs_nil)))
  (pss_one (ps_for PassesOwn.never rfl (pi_tup (pe_op op_catTK (pe_tup (pa_cons (pe_tup (pa_cons (pv 5) (pa_cons (pv 6) pa_nil))) pa_nil)) (pv 7))) (pg_tup rfl (pgs_cons (pg_name (i := 4) sc_law_multiplied.nd rfl (.inl rfl)) (pgs_cons (pg_name (i := 10) sc_law_multiplied.nd rfl (.inl rfl)) pgs_nil)))
  (pss_one (ps_asg (pe_fn h_law_plus hr pass0 (pa_cons (pe_ix ix_listK (pe_ix ix_listK (pv 2) (pv 3) (fun _ _ => rfl)) (pv 4) (fun _ _ => rfl)) (pa_cons (pe_fn h_law_times hr pass0 (pa_cons (pv 9) (pa_cons (pv 10) pa_nil))) pa_nil))) (pg_sub (pe_ix ix_listK (pv 2) (pv 3) (fun _ _ => rfl)) (pv 4) set_list))))))))
  (pss_one (ps_ret (pe_tup (pa_cons (pv 0) (pa_cons (pe_callTy call_tuple_ofK (by rfl) T.B.tuple bo_tuple (pa_cons (pe_lc (own := [("_law_own", 11)]) (g := gName 11) (tt := tYes) rfl sc_law_multiplied.nd (pi_list (pv 2)) (blkOk_by (N := ["_law_n", "_law_work", "_law_grid", "_law_i", "_law_j", "_law_v", "_law_pivot", "_law_row", "_law_column", "_law_factor", "_law_number_here", "_law_own", "_law_one"]) (sc := defScope s_law_multiplied) (by decide +kernel)) (fun _ _ _ _ _ => (pg_name (i := 11) sc_law_multiplied.nd rfl (.inl rfl))) (fun _ _ _ _ _ => pts_nil) (fun _ _ _ _ _ => (pe_callTy call_tuple_ofK (by rfl) T.B.tuple bo_tuple (pa_cons (by exact (pe_lc (own := [("_law_j", 4), ("_law_one", 12)]) (g := gTup K 2 (gCons (gName 4) (gCons (gName 12) (gNil)))) rfl sc_law_multiplied.nd (pi_enumK (by rfl) T.B.enumerate (pa_cons (pv 11) pa_nil)) (blkOk_by (by rfl)) (fun _ _ _ _ _ => (pg_tup rfl (pgs_cons (pg_name (i := 4) sc_law_multiplied.nd rfl (.inl rfl)) (pgs_cons (pg_name (i := 12) sc_law_multiplied.nd rfl (.inl rfl)) pgs_nil)))) (fun _ _ _ _ _ => pts_one (pt_cmpR (op_neDK hr.units) (pv 12) (pe_tup (pa_cons pe_int (pa_cons pe_int pa_nil))) (nomark _))) (fun _ _ _ _ _ => (pe_tup (pa_cons (pv 4) (pa_cons (pv 12) pa_nil)))))) pa_nil)))) pa_nil)) pa_nil))))))), ?_⟩
    repeat' (first
      | exact q
      | refine ⟨_, _, _, _, rfl, rfl, (by assumption), rfl, ?_⟩
      | refine ⟨_, _, _, _, true, rfl, .ty _, (by first | exact .base (.int _) | exact ty_tup (by assumption) | exact ty_lst (by assumption)), kit_ty (by decide +kernel), ?_⟩
      | refine ⟨_, _, _, _, false, rfl, .ty _, (by first | exact .base (.int _) | exact ty_tup (by assumption) | exact ty_lst (by assumption)), kit_ty (by decide +kernel), ?_⟩
      | refine ⟨_, _, rfl, .inr (by assumption), ?_⟩
      | refine ⟨_, _, rfl, .inl (by assumption), ?_⟩
      | refine ⟨_, _, rfl, (by assumption), rfl, ?_⟩
      | refine ⟨_, rfl, ?_⟩
      | refine ⟨_, _, rfl, rfl, ?_⟩
      | refine ⟨Nat.le_of_ble_eq_true rfl, fun p hp => ?_⟩
      | refine ⟨_, _, rfl, ?_⟩
      | refine ⟨rfl, ?_⟩
      | refine ⟨mul_ok4 (by assumption) (by assumption), ?_⟩
      | fail)
    have n12 := gr.2.1
    refine ⟨by omega, by omega, fun D hD => lc_fresh walk_range (fun i d H => FL K H d n fun _ => 0) (fun i d H H' s h => h.mono s) (fun i d H acc acc' hne e h => h.other hne e) (fun i d H ⟨_, e, _⟩ => by rw [e]; exact fun z => nomatch z) hD (by simp; omega) (fun _ _ => True.intro) (fun i x H1 H2 Qy hi s1 yy k => ?_) (fun H1 ds s1 eD lds ndd hDd hds => ?_)⟩
    · obtain ⟨rfl, rfl⟩ := yy
      refine ⟨rfl, ?_⟩
      repeat' (first
      | exact q
      | refine ⟨_, _, _, _, rfl, rfl, (by assumption), rfl, ?_⟩
      | refine ⟨_, _, _, _, true, rfl, .ty _, (by first | exact .base (.int _) | exact ty_tup (by assumption) | exact ty_lst (by assumption)), kit_ty (by decide +kernel), ?_⟩
      | refine ⟨_, _, _, _, false, rfl, .ty _, (by first | exact .base (.int _) | exact ty_tup (by assumption) | exact ty_lst (by assumption)), kit_ty (by decide +kernel), ?_⟩
      | refine ⟨_, _, rfl, .inr (by assumption), ?_⟩
      | refine ⟨_, _, rfl, .inl (by assumption), ?_⟩
      | refine ⟨_, _, rfl, (by assumption), rfl, ?_⟩
      | refine ⟨_, rfl, ?_⟩
      | refine ⟨_, _, rfl, rfl, ?_⟩
      | refine ⟨Nat.le_of_ble_eq_true rfl, fun p hp => ?_⟩
      | refine ⟨_, _, rfl, ?_⟩
      | refine ⟨rfl, ?_⟩
      | refine ⟨mul_ok4 (by assumption) (by assumption), ?_⟩
      | fail)
      refine ⟨by omega, by omega, fun D2 hD2 => lc_a walk_range (PIm K fun _ => numD 0) PIm.m1 PIm.m2 hD2 (by simp; omega) (fun _ _ => True.intro) (fun i x H1 H3 Qy hi s1 yy k => ?_) (fun H3 hacc => ?_)⟩
      · obtain ⟨rfl, rfl⟩ := yy
        exact ⟨rfl, Nat.le_of_ble_eq_true rfl, fun p hp => k _ _ (same_new hp) (.tup (.of upd_same) (.cons (.int 0) (.cons (.int 1) .nil)))⟩
      · obtain ⟨xs0, s2, eD2, ixs0⟩ := hacc.im
        exact k D2 H3 s2 hD2 ⟨xs0, eD2, by rw [ixs0.length]; simp, fun i x ex => by
          obtain ⟨d, ed, idd⟩ := ixs0.got ex
          rw [List.getElem?_map] at ed
          obtain ⟨j, ej, rfl⟩ := Option.map_eq_some_iff.mp ed
          exact idd⟩
    have len : ds.length = n := by rw [lds]; simp
    have L0 : GridB K H1 n (fun _ _ => 0) ds := ⟨len, ndd, fun i d e => (hds i d e).1⟩
    have mob1 := L0.mob
    have dsN : ∀ {H' : Hp}, Kp ds H1 H' → H' D = some (.lst (ds.map V.ref)) := fun k => k D _ hDd eD
    have notd : ∀ {b : Addr} {o : HO}, H b = some o → b ∉ ds := fun e hm => by
      obtain ⟨i, hi⟩ := List.getElem?_of_mem hm
      rw [(hds i _ hi).2] at e; cases e
    have sl : ∀ {H' : Hp}, Kp ds H1 H' → SqL K H' a ys := fun {H'} k => by
      rcases la with (h | ⟨o, h⟩) | h
      · exact .inl (.inl (k a _ (notd h) (s1 _ _ h)))
      · exact .inl (.inr ⟨o, k a _ (notd h) (s1 _ _ h)⟩)
      · exact .inr h
    have lys : ys.length = ws.length := by rw [iys.length, List.length_map]
    refine ⟨_, rfl, a, rfl, ⟨_, sl .refl⟩, for_it (walk_list (xs := ys)) (fun k σ H' => ∃ x3 x4 x5 x6 x7 x8 x9 x10, σ = [some (.int n), some (.ref a), some (.ref D), x3, x4, x5, x6, x7, x8, x9, x10, none, none] ∧ Kp ds H1 H' ∧ GridB K H' n ((ws.take k).foldl addW (fun _ _ => 0)) ds)
      ⟨none, none, none, none, none, none, none, none, rfl, .refl, L0⟩ (fun k σ H' _ ⟨_, _, _, _, _, _, _, _, _, kp, _⟩ => sl kp) ?_ ?_⟩
    · rintro k x σ H2 H3 hk ⟨x3, x4, x5, x6, x7, x8, x9, x10, rfl, kp, Lk2⟩ ⟨rfl, ex⟩
      obtain ⟨wk, ewk, iw⟩ := imAll_atT iys (s1.tup.trans (kp.tup mob1)) ex
      obtain ⟨T1, pv, r, c, rfl, tt, ipv, ir, ic⟩ := w1_inv iw
      obtain ⟨cn, cb⟩ := ok.cl wk (List.mem_of_getElem? ewk)
      obtain ⟨jn, jb⟩ := ok.jl wk (List.mem_of_getElem? ewk)
      have sm := (ok.sm k wk ewk).sm
      generalize hG : (ws.take k).foldl addW (fun _ _ => 0) = G at Lk2 sm
      have lcl : (clW wk).length ≤ 12 := by have := nodup_le cn (fun j hj => by obtain ⟨p, hp, rfl⟩ := List.mem_map.mp hj; exact cb p hp); unfold plc at this; rw [List.length_map] at this; omega
      have ljl : (jlW wk).length ≤ 12 := by have := nodup_le jn (fun j hj => by obtain ⟨p, hp, rfl⟩ := List.mem_map.mp hj; exact jb p hp); unfold plc at this; rw [List.length_map] at this; omega
      refine ⟨_, _, rfl, tt, rfl, _, _, rfl, _, _, rfl, _, _, rfl, _, _, rfl, rfl, ?_⟩
      repeat' (first
      | exact q
      | refine ⟨_, _, _, _, rfl, rfl, (by assumption), rfl, ?_⟩
      | refine ⟨_, _, _, _, true, rfl, .ty _, (by first | exact .base (.int _) | exact ty_tup (by assumption) | exact ty_lst (by assumption)), kit_ty (by decide +kernel), ?_⟩
      | refine ⟨_, _, _, _, false, rfl, .ty _, (by first | exact .base (.int _) | exact ty_tup (by assumption) | exact ty_lst (by assumption)), kit_ty (by decide +kernel), ?_⟩
      | refine ⟨_, _, rfl, .inr (by assumption), ?_⟩
      | refine ⟨_, _, rfl, .inl (by assumption), ?_⟩
      | refine ⟨_, _, rfl, (by assumption), rfl, ?_⟩
      | refine ⟨_, rfl, ?_⟩
      | refine ⟨_, _, rfl, rfl, ?_⟩
      | refine ⟨Nat.le_of_ble_eq_true rfl, fun p hp => ?_⟩
      | refine ⟨_, _, rfl, ?_⟩
      | refine ⟨rfl, ?_⟩
      | refine ⟨mul_ok4 (by assumption) (by assumption), ?_⟩
      | fail)
      rename_i p1 hp1 p0 hp0
      have t3 := kp.tup mob1
      have s1p := same_new (o := .tup [.int 1, .int 1]) hp1
      have iO : Im K (L2.upd H3 p1 (.tup [.int 1, .int 1])) (.ref p1) (numD 1) := .tup (.of upd_same) (.cons (.int 1) (.cons (.int 1) .nil))
      generalize L2.upd H3 p1 (.tup [.int 1, .int 1]) = H3' at s1p iO hp0 hp ⊢
      have s3p := s1p.trans ((same_new (o := .tup [.int (wk.1 : Nat), .ref p1]) hp0).trans (same_new (o := .tup [.ref p0]) hp))
      refine cat_row (p := (wk.1, 1)) (r := wk.2.2.2) (new_row1 hp0 hp iO) (ic.mono s3p.tup) (by have := lcl; unfold clW at this; simp at this; omega) (fun c1 H4 s4 icl => ?_)
      have s34 : Same H3 H4 := s3p.trans s4
      have L4 := Lk2.mono s34
      have mob4 := L4.mob
      have kp4 : Kp ds H1 H4 := kp.trans s34.kp
      have ir4 := ir.mono s34.tup
      have ipv4 := ipv.mono s34.tup
      obtain ⟨_, zs, e, tcl, icl⟩ := row_inv icl
      cases e
      have lzs : zs.length = (clW wk).length := by rw [icl.length, List.length_map]; rfl
      refine ⟨c1, rfl, ⟨_, tcl⟩, for_it (walk_tup (xs := zs)) (fun b σ H' => ∃ x3 x4 x9 x10, σ = [some (.int n), some (.ref a), some (.ref D), x3, x4, some (.int (wk.1 : Nat)), some pv, some (.ref r), some (.ref c), x9, x10, none, none] ∧ Kp ds H4 H' ∧ GridB K H' n (fun i j => G i j + rowF ((clW wk).take b) i * rowF (jlW wk) j) ds)
        ⟨_, _, _, _, rfl, .refl, L4.congr fun i j _ => by simp [rowF_nil]; grind⟩ (fun b σ H' _ ⟨_, _, _, _, _, k, _⟩ => k.tt mob4 tcl) ?_ ?_⟩
      · rintro b x σ H5 H6 hb ⟨y3, y4, y9, y10, rfl, k5, L5⟩ ⟨rfl, ex5⟩
        obtain ⟨pc, epc, ipc⟩ := imAll_atT icl (k5.tup mob4) ex5
        obtain ⟨T2, cf, rfl, tt2, icf⟩ := part_inv ipc
        have hpc : pc ∈ clW wk := List.mem_of_getElem? epc
        have ts := fun j => take_succ_row cn epc j
        refine ⟨_, _, rfl, tt2, rfl, _, _, rfl, _, _, rfl, rfl, ?_⟩
        repeat' (first
      | exact q
      | refine ⟨_, _, _, _, rfl, rfl, (by assumption), rfl, ?_⟩
      | refine ⟨_, _, _, _, true, rfl, .ty _, (by first | exact .base (.int _) | exact ty_tup (by assumption) | exact ty_lst (by assumption)), kit_ty (by decide +kernel), ?_⟩
      | refine ⟨_, _, _, _, false, rfl, .ty _, (by first | exact .base (.int _) | exact ty_tup (by assumption) | exact ty_lst (by assumption)), kit_ty (by decide +kernel), ?_⟩
      | refine ⟨_, _, rfl, .inr (by assumption), ?_⟩
      | refine ⟨_, _, rfl, .inl (by assumption), ?_⟩
      | refine ⟨_, _, rfl, (by assumption), rfl, ?_⟩
      | refine ⟨_, rfl, ?_⟩
      | refine ⟨_, _, rfl, rfl, ?_⟩
      | refine ⟨Nat.le_of_ble_eq_true rfl, fun p hp => ?_⟩
      | refine ⟨_, _, rfl, ?_⟩
      | refine ⟨rfl, ?_⟩
      | refine ⟨mul_ok4 (by assumption) (by assumption), ?_⟩
      | fail)
        rename_i p3 hp3
        have t5 := k5.tup mob4
        have ipv5 := ipv4.mono t5
        have s6p := (same_new (o := .tup [.int (wk.1 : Nat), pv]) hp3).trans (same_new (o := .tup [.ref p3]) hp)
        refine cat_row (p := (wk.1, wk.2.1)) (r := wk.2.2.1) (new_row1 hp3 hp ipv5) ((ir4.mono t5).mono s6p.tup) (by have := ljl; unfold jlW at this; simp at this; omega) (fun c2 H7 s7 ijl => ?_)
        have s67 : Same H6 H7 := s6p.trans s7
        have L7 := L5.mono s67
        have mob7 := L7.mob
        have icf7 := icf.mono s67.tup
        have kp7 : Kp ds H1 H7 := kp4.trans (k5.trans s67.kp)
        obtain ⟨_, us, e, tjl, ijl⟩ := row_inv ijl
        cases e
        have lus : us.length = (jlW wk).length := by rw [ijl.length, List.length_map]; rfl
        refine ⟨c2, rfl, ⟨_, tjl⟩, for_it (walk_tup (xs := us)) (fun d σ H' => ∃ x4 x10, σ = [some (.int n), some (.ref a), some (.ref D), some (.int (pc.1 : Nat)), x4, some (.int (wk.1 : Nat)), some pv, some (.ref r), some (.ref c), some cf, x10, none, none] ∧ Kp ds H7 H' ∧
            GridB K H' n (fun i j => G i j + rowF ((clW wk).take b) i * rowF (jlW wk) j + (if i = pc.1 then pc.2 * rowF ((jlW wk).take d) j else 0)) ds)
          ⟨_, _, rfl, .refl, L7.congr fun i j _ => by simp [rowF_nil]; grind⟩ (fun d σ H' _ ⟨_, _, _, k, _⟩ => k.tt mob7 tjl) ?_ ?_⟩
        · rintro d x σ H8 H9 hd ⟨z9, z10, rfl, k8, L8⟩ ⟨rfl, ex8⟩
          obtain ⟨pj, epj, ipj⟩ := imAll_atT ijl (k8.tup mob7) ex8
          obtain ⟨T3, cg, rfl, tt3, icg⟩ := part_inv ipj
          have hpj : pj ∈ jlW wk := List.mem_of_getElem? epj
          have us' := fun j => take_succ_row jn epj j
          obtain ⟨m1, m2, m3, m4, m5⟩ := sm pc hpc pj hpj
          have hcn := cb pc hpc
          have hjn := jb pj hpj
          obtain ⟨di, edi⟩ : ∃ d, ds[pc.1]? = some d := ⟨ds[pc.1]'(by rw [len]; exact hcn), List.getElem?_eq_getElem _⟩
          have hval : G pc.1 pj.1 + rowF ((clW wk).take b) pc.1 * rowF (jlW wk) pj.1 + (if pc.1 = pc.1 then pc.2 * rowF ((jlW wk).take d) pj.1 else 0) = G pc.1 pj.1 := by
            rw [if_pos rfl, (ts 0).2, (us' 0).2]; grind
          obtain ⟨oxs, ox, eo, ao, io⟩ := (L8.at' pc.1 di edi).get hjn
          rw [hval] at io
          have kp8 : Kp ds H1 H9 := kp7.trans k8
          have eD8 := dsN kp8
          have icf8 := icf7.mono (k8.tup mob7)
          refine ⟨_, _, rfl, tt3, rfl, _, _, rfl, _, _, rfl, rfl, ?_⟩
          refine ⟨_, rfl, _, rfl, D, _, _, _, rfl, rfl, SqL.of eD8, ref_at edi, _, rfl, di, oxs, _, _, rfl, rfl, SqL.of eo, ao, ?_⟩
          refine ⟨_, rfl, _, rfl, _, _, pc.2, pj.2, rfl, icf8, icg, m2, m3, True.intro, m4, fun v2 H10 e10 i10 => ?_⟩
          refine ⟨_, _, G pc.1 pj.1, pc.2 * pj.2, rfl, io.mono e10.tup, i10, m1, m4, True.intro, m5, fun v4 H11 e11 i11 => ?_⟩
          have e911 := e10.trans e11
          have q1 : ∀ j < n, G pc.1 j + rowF ((clW wk).take b) pc.1 * rowF (jlW wk) j + (if pc.1 = pc.1 then pc.2 * rowF ((jlW wk).take (d + 1)) j else 0) = if j = pj.1 then G pc.1 pj.1 + pc.2 * pj.2 else G pc.1 j + rowF ((clW wk).take b) pc.1 * rowF (jlW wk) j + (if pc.1 = pc.1 then pc.2 * rowF ((jlW wk).take d) j else 0) := fun j hj => by
            rw [if_pos rfl, if_pos rfl, (us' j).1]
            by_cases e : j = pj.1
            · rw [if_pos e, if_pos e, (ts 0).2, e]; grind
            · rw [if_neg e, if_neg e]
          obtain ⟨xs8, e8, x8, FL8⟩ := (L8.mono e911).set (M' := fun i j => G i j + rowF ((clW wk).take b) i * rowF (jlW wk) j + (if i = pc.1 then pc.2 * rowF ((jlW wk).take (d + 1)) j else 0)) edi hjn i11 q1 (fun i' hi' j hj => by simp only [if_neg hi'])
          exact ⟨_, rfl, _, rfl, D, _, _, _, rfl, rfl, SqL.of (e911 _ _ eD8), ref_at edi, _, rfl, di, xs8, _, _, rfl, rfl, e8, x8, _, _, rfl, (k8.trans e911.kp).upd (List.mem_of_getElem? edi), FL8⟩
        · rintro σ H8 ⟨z9, z10, rfl, k8, L8⟩
          refine ⟨_, _, _, _, rfl, k5.trans (s67.kp.trans k8), L8.congr fun i j _ => ?_⟩
          rw [List.take_of_length_le (l := jlW wk) (by omega), (ts i).1]
          by_cases e : i = pc.1
          · rw [if_pos e, if_pos e, e, (ts 0).2]; grind
          · rw [if_neg e, if_neg e]; grind
      · rintro σ H5 ⟨y3, y4, y9, y10, rfl, k5, L5⟩
        refine ⟨_, _, _, _, _, _, _, _, rfl, kp4.trans k5, L5.congr fun i j _ => ?_⟩
        rw [List.take_of_length_le (l := clW wk) (by omega), List.take_succ, ewk, List.foldl_append, hG]
        rfl
    · rintro σ H2 ⟨x3, x4, x5, x6, x7, x8, x9, x10, rfl, kp, Lk2⟩
      rw [List.take_of_length_le (by omega)] at Lk2
      have ldn : (ds.map V.ref).length = n := by rw [List.length_map, len]
      have eD2 := dsN kp
      have lrow : rows.length = n := gr.1
      have good : ∀ (i : Nat) (r : List Part), rows[i]? = some r → parts (List.range n) (ws.foldl addW (fun _ _ => 0) i) = r := fun i r e => parts_good (gr.2.2 r (List.mem_of_getElem? e)) fun j hj => by
        rw [hm i (by rw [← lrow]; exact (List.getElem?_eq_some_iff.mp e).1) j hj]
        unfold matOf
        rw [List.getD_eq_getElem?_getD, e]; rfl
      generalize ws.foldl addW (fun _ _ => 0) = M at Lk2 good
      repeat' (first
      | exact q
      | refine ⟨_, _, _, _, rfl, rfl, (by assumption), rfl, ?_⟩
      | refine ⟨_, _, _, _, true, rfl, .ty _, (by first | exact .base (.int _) | exact ty_tup (by assumption) | exact ty_lst (by assumption)), kit_ty (by decide +kernel), ?_⟩
      | refine ⟨_, _, _, _, false, rfl, .ty _, (by first | exact .base (.int _) | exact ty_tup (by assumption) | exact ty_lst (by assumption)), kit_ty (by decide +kernel), ?_⟩
      | refine ⟨_, _, rfl, .inr (by assumption), ?_⟩
      | refine ⟨_, _, rfl, .inl (by assumption), ?_⟩
      | refine ⟨_, _, rfl, (by assumption), rfl, ?_⟩
      | refine ⟨_, rfl, ?_⟩
      | refine ⟨_, _, rfl, rfl, ?_⟩
      | refine ⟨Nat.le_of_ble_eq_true rfl, fun p hp => ?_⟩
      | refine ⟨_, _, rfl, ?_⟩
      | refine ⟨rfl, ?_⟩
      | refine ⟨mul_ok4 (by assumption) (by assumption), ?_⟩
      | fail)
      refine ⟨⟨_, SqL.of eD2⟩, fun D3 hD3 => lc_a (walk_list (xs := ds.map V.ref)) (PIm K fun k => rowD (rows.getD k [])) PIm.m1 PIm.m2 hD3 (by omega) (fun H' s => SqL.of (s _ _ eD2)) (fun i x H3 H4 Qy hi s3 yy k => ?_) (fun H3 hacc => ?_)⟩
      · obtain ⟨rfl, ex⟩ := yy
        rw [List.getElem?_map] at ex
        obtain ⟨d, ed, rfl⟩ := Option.map_eq_some_iff.mp ex
        have hin : i < n := by rw [← ldn]; exact hi
        have erow := List.getElem?_eq_getElem (show i < rows.length by rw [lrow]; exact hin)
        generalize rows[i]'(by rw [lrow]; exact hin) = row at erow
        have hgood := good i row erow
        obtain ⟨xs, e4, lx, ix⟩ := (Lk2.at' i d ed).mono s3
        generalize M i = f at ix hgood
        refine ⟨rfl, ?_⟩
        refine ⟨_, rfl, d, xs, rfl, SqL.of e4, fun D4 hD4 => lc_f (walk_enum (xs := xs)) (fun j => decide (f j ≠ 0)) (PIm K fun j => partD (j, f j)) PIm.m1 PIm.m2 hD4 (by omega) (fun H' s => SqL.of (s _ _ e4)) (fun j x H5 H6 Qy Qn hj s5 yy ky kn => ?_) (fun H5 hacc => ?_)⟩
        · obtain ⟨T1, y0, y1, rfl, hT, rfl, e0, e1⟩ := yy
          cases e0
          have t6 := same_new (o := .tup [.int (j : Nat), y1]) hT
          have iv6 := (ix j y1 e1).mono (s5.trans t6).tup
          refine ⟨_, _, rfl, TT.of upd_same, rfl, _, _, rfl, _, _, rfl, rfl, rfl, ?_⟩
          refine ⟨_, rfl, Nat.le_of_ble_eq_true rfl, fun p hp => ?_⟩
          have s7 := same_new (o := .tup [.int 0, .int 1]) hp
          have i0 : Im K (L2.upd (L2.upd H5 T1 (.tup [.int (j : Nat), y1])) p (.tup [.int 0, .int 1])) (.ref p) (numD 0) := .tup (.of upd_same) (.cons (.int 0) (.cons (.int 1) .nil))
          have iv7 := iv6.mono s7.tup
          refine ⟨_, _, iv7.dp, i0.dp, (shp_num _).shaped (by decide), (shp_num _).shaped (by decide), _, rfl, ?_⟩
          rw [eqv_num]
          by_cases hz : f j = 0
          · rw [decide_eq_true hz]
            exact kn (by simp [hz]) _ (t6.trans s7)
          · rw [decide_eq_false hz]
            refine ⟨_, rfl, _, rfl, Nat.le_of_ble_eq_true rfl, fun p2 hp2 => ky (by simp [hz]) _ _ ((t6.trans s7).trans (same_new hp2)) ?_⟩
            exact .tup (.of upd_same) (.cons (.int _) (.cons (iv7.mono (same_new hp2).tup) .nil))
        · obtain ⟨ys2, s5, eD4, iy⟩ := hacc.im
          rw [lx, show List.map (fun j => partD (j, f j)) (List.filter (fun j => decide (f j ≠ 0)) (List.range n)) = (parts (List.range n) f).map partD by unfold parts; rw [List.map_map]; rfl, hgood] at iy
          refine ⟨D4, ys2, rfl, .inl ⟨SqL.of eD4, fun l hl => k _ _ (s5.trans (same_new hl)) ?_⟩⟩
          show Im K _ (.ref l) (rowD (rows.getD i []))
          rw [List.getD_eq_getElem?_getD, erow]
          exact .tup (.of upd_same) (iy.mono (same_new hl).tup)
      · obtain ⟨ys2, s5, eD3, iy⟩ := hacc.im
        have er : List.map (fun k => rowD (rows.getD k [])) (List.range (ds.map V.ref).length) = rows.map rowD := by
          refine List.ext_getElem? fun i => ?_
          rw [List.getElem?_map, List.getElem?_map]
          by_cases hi : i < n
          · have e1 := List.getElem?_eq_getElem (show i < rows.length by rw [lrow]; exact hi)
            rw [List.getElem?_range (by rw [ldn]; exact hi), e1]
            simp [List.getD_eq_getElem?_getD, e1]
          · rw [List.getElem?_eq_none (by rw [List.length_range, ldn]; omega), List.getElem?_eq_none (by omega)]; rfl
        rw [er] at iy
        refine ⟨D3, ys2, rfl, .inl ⟨SqL.of eD3, fun l hl => ?_⟩⟩
        have s6 := s5.trans (same_new (o := .tup ys2) hl)
        have ir : Im K (L2.upd H3 l (.tup ys2)) (.ref l) (.tuple (rows.map rowD)) := .tup (.of upd_same) (iy.mono (same_new hl).tup)
        generalize L2.upd H3 l (.tup ys2) = H6 at s6 ir ⊢
        refine ⟨Nat.le_of_ble_eq_true rfl, fun p hp => q _ _ (fun b o e => (same_new hp) _ _ (s6 _ _ (kp b o (notd e) (s1 b o e)))) ?_⟩
        exact .tup (.of upd_same) (.cons (.int _) (.cons (ir.mono (same_new hp).tup) .nil))
end
end FW
end

/-! ## W14 -/
section
set_option Elab.async false
set_option linter.all false
set_option maxRecDepth 100000
set_option maxHeartbeats 4000000
namespace FW
open PySem PySem.Spec PyProof.Rows L2 FF
section
variable {P : Program} {w : World} {K : PySem.W.Frag} {mg : Str → Option Value} {base : Heap}
/-- two values of one form, nested less than k deep -/
def Tw (K : PySem.W.Frag) : Nat → Hp → V → V → Prop
  | 0, _, _, _ => False
  | k + 1, H, a, b => (∃ i : Int, a = .int i ∧ b = .int i) ∨ ∃ p q xs ys, a = .ref p ∧ b = .ref q ∧ ((SqL K H p xs ∧ SqL K H q ys) ∨ (SqT K H p xs ∧ SqT K H q ys)) ∧ xs.length = ys.length ∧ xs.length ≤ 1000 ∧ ∀ (i : Nat) (x y : V), xs[i]? = some x → ys[i]? = some y → Tw K k H x y
theorem Tw.mono : ∀ {k : Nat} {H H' : Hp} {a b : V}, Tw K k H a b → Same H H' → Tw K k H' a b
  | 0, _, _, _, _, h, _ => h.elim
  | k + 1, H, H', a, b, h, s => by
    rcases h with h | ⟨p, q, xs, ys, e1, e2, h, l1, l2, z⟩
    · exact .inl h
    · refine .inr ⟨p, q, xs, ys, e1, e2, ?_, l1, l2, fun i x y ex ey => (z i x y ex ey).mono s⟩
      rcases h with ⟨h1, h2⟩ | ⟨h1, h2⟩
      · exact .inl ⟨s.seq h1, s.seq h2⟩
      · exact .inr ⟨Same.tt s h1, Same.tt s h2⟩
theorem walk_zip {a b : Addr} {xs ys : List V} {n : Nat} (h1 : xs.length = n) (h2 : ys.length = n) : Walk (Itz K a b) n (fun H => SqL K H a xs ∧ SqL K H b ys) (YPair (fun i => xs[i]?) (fun i => ys[i]?)) := by
  refine ⟨fun i H hi q => ⟨xs, ys, xs[i]'(by omega), ys[i]'(by omega), q.1, q.2, List.getElem?_eq_getElem _, List.getElem?_eq_getElem _⟩, fun H q => ⟨xs, ys, q.1, q.2, .inl (by omega)⟩, fun i H v H' _ q y => ?_⟩
  obtain ⟨T, x, z, h1, h2, h3, h4, h5⟩ := y
  exact ⟨T, x, z, h1, h2, h3, h4 xs q.1, h5 ys q.2⟩
theorem walk_zipT {a b : Addr} {xs ys : List V} {n : Nat} (h1 : xs.length = n) (h2 : ys.length = n) : Walk (RZ.ItzT K a b) n (fun H => SqT K H a xs ∧ SqT K H b ys) (YPair (fun i => xs[i]?) (fun i => ys[i]?)) := by
  refine ⟨fun i H hi q => ⟨xs, ys, xs[i]'(by omega), ys[i]'(by omega), q.1, q.2, List.getElem?_eq_getElem _, List.getElem?_eq_getElem _⟩, fun H q => ⟨xs, ys, q.1, q.2, .inl (by omega)⟩, fun i H v H' _ q y => ?_⟩
  obtain ⟨T, x, z, h1, h2, h3, h4, h5⟩ := y
  exact ⟨T, x, z, h1, h2, h3, h4 xs q.1, h5 ys q.2⟩
theorem is2_b {H : Hp} {Q : VK} {a : Addr} {xs : List V} {p : Addr} (h : SqL K H a xs ∨ SqT K H a xs) (hp : H p = some (.tup [.ty "list", .ty "tuple"])) (q : Q (.bl true) H) : rIsiT K [.ref a, .ref p] H Q := by
  rcases h with h | h
  · exact is2_l h hp q
  · exact is2_t h hp q
def sp_law_same (K : PySem.W.Frag) (k : Nat) : Sp := fun vs H Q _ => ∃ a b, vs = [a, b] ∧ Tw K k H a b ∧ RetB true H Q
abbrev s_law_same : Stmt := topS 43
theorem sc_law_same : FnScope ["_law_found", "_law_due", "_law_one", "_law_other"] ["_law_found", "_law_due"] (defScope s_law_same) := ⟨rfl, rfl, rfl, by decide +kernel, rfl, by decide +kernel, by decide +kernel⟩
theorem fn_law_same (T : Tops K mg) : ∀ k : Nat, Fn P w K mg base CX0 (k + 1) "_law_same" ["_law_found", "_law_due"] (sp_law_same K k)
  | 0 => T.d_law_same.fn sc_law_same (fun _ _ _ _ _ _ us hl => match us, hl with | [_, _], _ => rfl) (fun vs H Q E ⟨_, _, _, h, _⟩ => h.elim) (fun f cdv A outer s H vs Q E hr ⟨_, _, _, h, _⟩ => h.elim)
  | k + 1 => by
    have h_law_same : Fn P w K mg base CX0 (k + 1) "_law_same" _ _ := fn_law_same T k
    refine T.d_law_same.fn sc_law_same (fun _ _ _ _ _ _ us hl => match us, hl with | [_, _], _ => rfl) (fun vs H Q E h => ?_) (fun f cdv A outer s H vs Q E hr h => ?_)
    · obtain ⟨a, b, rfl, _⟩ := h; rfl
    · obtain ⟨a, b, rfl, tw, q⟩ := h
      refine ⟨_, (pss_cons (ps_if (pt_cmpR op_isN (pv 1) pe_non (nomark _))
  (pss_one (ps_ret (pe_cmpR op_isN (pv 0) pe_non (nomark _))))
  pss_nil)
  (pss_cons (ps_if (pt_val (pe_callB call_isiTK (by rfl) T.B.isinstance bo_isinstance (pa_cons (pv 1) (pa_cons (pe_tup (pa_cons (pe_bltn (v := .ty "list") (by rfl) T.B.list bo_list rfl) (pa_cons (pe_bltn (v := .ty "tuple") (by rfl) T.B.tuple bo_tuple rfl) pa_nil))) pa_nil))))
  (pss_cons (ps_if (PW.pt (pw_or (pt_not (pt_val (pe_callB call_isiTK (by rfl) T.B.isinstance bo_isinstance (pa_cons (pv 0) (pa_cons (pe_tup (pa_cons (pe_bltn (v := .ty "list") (by rfl) T.B.list bo_list rfl) (pa_cons (pe_bltn (v := .ty "tuple") (by rfl) T.B.tuple bo_tuple rfl) pa_nil))) pa_nil))))) (pw_or1 (pt_cmpR op_ne (pe_callB call_isiK1 (by rfl) T.B.isinstance bo_isinstance (pa_cons (pv 0) (pa_cons (pe_bltn (v := .ty "list") (by rfl) T.B.list bo_list rfl) pa_nil))) (pe_callB call_isiK1 (by rfl) T.B.isinstance bo_isinstance (pa_cons (pv 1) (pa_cons (pe_bltn (v := .ty "list") (by rfl) T.B.list bo_list rfl) pa_nil))) (nomark _)))))
  (pss_one (ps_ret pe_bl))
  pss_nil)
  (pss_one (ps_ret (pe_and (pe_cmpR op_eq (pe_callB call_len_seqK (by rfl) T.B.len bo_len (pa_cons (pv 0) pa_nil)) (pe_callB call_len_seqK (by rfl) T.B.len bo_len (pa_cons (pv 1) pa_nil)) (nomark _)) (pe_one (pe_callB (cr_allK rfl) (by rfl) T.B.all bo_all (pa_cons (pe_lc (own := [("_law_one", 2), ("_law_other", 3)]) (g := gTup K 2 (gCons (gName 2) (gCons (gName 3) (gNil)))) (tt := tYes) rfl sc_law_same.nd (RZ.pi_zipA (by rfl) T.B.zip (pa_cons (pv 0) (pa_cons (pv 1) pa_nil))) (blkOk_by (N := ["_law_found", "_law_due", "_law_one", "_law_other"]) (sc := defScope s_law_same) (by decide +kernel)) (fun _ _ _ _ _ => (pg_tup rfl (pgs_cons (pg_name (i := 2) sc_law_same.nd rfl (.inl rfl)) (pgs_cons (pg_name (i := 3) sc_law_same.nd rfl (.inl rfl)) pgs_nil)))) (fun _ _ _ _ _ => pts_nil) (fun _ _ _ _ _ => (pe_fn h_law_same hr pass0 (pa_cons (pv 2) (pa_cons (pv 3) pa_nil))))) pa_nil)))))))
  pss_nil)
  (pss_one (ps_ret (pe_and (pe_callB call_isiK1 (by rfl) T.B.isinstance bo_isinstance (pa_cons (pv 0) (pa_cons (pe_bltn (v := .ty "int") (by rfl) T.B.int bo_int rfl) pa_nil))) (pe_and (pe_not (pe_callB call_isiK1 (by rfl) T.B.isinstance bo_isinstance (pa_cons (pv 0) (pa_cons (pe_bltn (v := .ty "bool") (by rfl) T.B.bool bo_bool rfl) pa_nil)))) (pe_one (pe_cmpR op_eq (pv 0) (pv 1) (nomark _))))))))), ?_⟩
      rcases tw with ⟨i, rfl, rfl⟩ | ⟨fa, da, xs, ys, rfl, rfl, ⟨la, lb⟩ | ⟨la, lb⟩, l1, l2, z⟩
      · repeat' (first
      | exact q
      | refine ⟨_, _, _, _, rfl, rfl, (by assumption), rfl, ?_⟩
      | refine ⟨_, _, _, _, true, rfl, .ty _, (by first | exact .base (.int _) | exact ty_tup (by assumption) | exact ty_lst (by assumption)), kit_ty (by decide +kernel), ?_⟩
      | refine ⟨_, _, _, _, false, rfl, .ty _, (by first | exact .base (.int _) | exact ty_tup (by assumption) | exact ty_lst (by assumption)), kit_ty (by decide +kernel), ?_⟩
      | refine ⟨_, _, rfl, .inr (by assumption), ?_⟩
      | refine ⟨_, _, rfl, .inl (by assumption), ?_⟩
      | refine ⟨_, _, rfl, (by assumption), rfl, ?_⟩
      | refine ⟨_, rfl, ?_⟩
      | refine ⟨_, _, rfl, rfl, ?_⟩
      | refine ⟨Nat.le_of_ble_eq_true rfl, fun p hp => ?_⟩
      | refine ⟨_, _, rfl, ?_⟩
      | refine ⟨rfl, ?_⟩
      | refine ⟨mul_ok4 (by assumption) (by assumption), ?_⟩
      | fail)
        have s1 := same_new (o := .tup [.ty "list", .ty "tuple"]) hp
        refine ⟨_, _, _, _, [.type "list", .type "tuple"], false, rfl, upd_same, .cons (.ty _) (.cons (.ty _) .nil), .base (.int i), rfl, ?_⟩
        generalize L2.upd H _ (.tup [.ty "list", .ty "tuple"]) = H1 at s1 ⊢
        repeat' (first
      | exact q
      | refine ⟨_, _, _, _, rfl, rfl, (by assumption), rfl, ?_⟩
      | refine ⟨_, _, _, _, true, rfl, .ty _, (by first | exact .base (.int _) | exact ty_tup (by assumption) | exact ty_lst (by assumption)), kit_ty (by decide +kernel), ?_⟩
      | refine ⟨_, _, _, _, false, rfl, .ty _, (by first | exact .base (.int _) | exact ty_tup (by assumption) | exact ty_lst (by assumption)), kit_ty (by decide +kernel), ?_⟩
      | refine ⟨_, _, rfl, .inr (by assumption), ?_⟩
      | refine ⟨_, _, rfl, .inl (by assumption), ?_⟩
      | refine ⟨_, _, rfl, (by assumption), rfl, ?_⟩
      | refine ⟨_, rfl, ?_⟩
      | refine ⟨_, _, rfl, rfl, ?_⟩
      | refine ⟨Nat.le_of_ble_eq_true rfl, fun p hp => ?_⟩
      | refine ⟨_, _, rfl, ?_⟩
      | refine ⟨rfl, ?_⟩
      | refine ⟨mul_ok4 (by assumption) (by assumption), ?_⟩
      | fail)
        rw [decide_eq_true (show V.int i = V.int i from rfl)]
        exact q _ s1
      · repeat' (first
      | exact q
      | refine ⟨_, _, _, _, rfl, rfl, (by assumption), rfl, ?_⟩
      | refine ⟨_, _, _, _, true, rfl, .ty _, (by first | exact .base (.int _) | exact ty_tup (by assumption) | exact ty_lst (by assumption)), kit_ty (by decide +kernel), ?_⟩
      | refine ⟨_, _, _, _, false, rfl, .ty _, (by first | exact .base (.int _) | exact ty_tup (by assumption) | exact ty_lst (by assumption)), kit_ty (by decide +kernel), ?_⟩
      | refine ⟨_, _, rfl, .inr (by assumption), ?_⟩
      | refine ⟨_, _, rfl, .inl (by assumption), ?_⟩
      | refine ⟨_, _, rfl, (by assumption), rfl, ?_⟩
      | refine ⟨_, rfl, ?_⟩
      | refine ⟨_, _, rfl, rfl, ?_⟩
      | refine ⟨Nat.le_of_ble_eq_true rfl, fun p hp => ?_⟩
      | refine ⟨_, _, rfl, ?_⟩
      | refine ⟨rfl, ?_⟩
      | refine ⟨mul_ok4 (by assumption) (by assumption), ?_⟩
      | fail)
        have s1 := same_new (o := .tup [.ty "list", .ty "tuple"]) hp
        refine ⟨_, _, _, _, [.type "list", .type "tuple"], true, rfl, upd_same, .cons (.ty _) (.cons (.ty _) .nil), ty_lst (s1.seq lb), rfl, ?_⟩
        generalize L2.upd H _ (.tup [.ty "list", .ty "tuple"]) = H1 at s1 ⊢
        clear hp
        repeat' (first
      | exact q
      | refine ⟨_, _, _, _, rfl, rfl, (by assumption), rfl, ?_⟩
      | refine ⟨_, _, _, _, true, rfl, .ty _, (by first | exact .base (.int _) | exact ty_tup (by assumption) | exact ty_lst (by assumption)), kit_ty (by decide +kernel), ?_⟩
      | refine ⟨_, _, _, _, false, rfl, .ty _, (by first | exact .base (.int _) | exact ty_tup (by assumption) | exact ty_lst (by assumption)), kit_ty (by decide +kernel), ?_⟩
      | refine ⟨_, _, rfl, .inr (by assumption), ?_⟩
      | refine ⟨_, _, rfl, .inl (by assumption), ?_⟩
      | refine ⟨_, _, rfl, (by assumption), rfl, ?_⟩
      | refine ⟨_, rfl, ?_⟩
      | refine ⟨_, _, rfl, rfl, ?_⟩
      | refine ⟨Nat.le_of_ble_eq_true rfl, fun p hp => ?_⟩
      | refine ⟨_, _, rfl, ?_⟩
      | refine ⟨rfl, ?_⟩
      | refine ⟨mul_ok4 (by assumption) (by assumption), ?_⟩
      | fail)
        have s2 := s1.trans (same_new (o := .tup [.ty "list", .ty "tuple"]) hp)
        refine ⟨_, _, _, _, [.type "list", .type "tuple"], true, rfl, upd_same, .cons (.ty _) (.cons (.ty _) .nil), ty_lst (s2.seq la), rfl, ?_⟩
        generalize L2.upd H1 _ (.tup [.ty "list", .ty "tuple"]) = H2 at s2 ⊢
        have la2 := s2.seq la
        have lb2 := s2.seq lb
        repeat' (first
      | exact q
      | refine ⟨_, _, _, _, rfl, rfl, (by assumption), rfl, ?_⟩
      | refine ⟨_, _, _, _, true, rfl, .ty _, (by first | exact .base (.int _) | exact ty_tup (by assumption) | exact ty_lst (by assumption)), kit_ty (by decide +kernel), ?_⟩
      | refine ⟨_, _, _, _, false, rfl, .ty _, (by first | exact .base (.int _) | exact ty_tup (by assumption) | exact ty_lst (by assumption)), kit_ty (by decide +kernel), ?_⟩
      | refine ⟨_, _, rfl, .inr (by assumption), ?_⟩
      | refine ⟨_, _, rfl, .inl (by assumption), ?_⟩
      | refine ⟨_, _, rfl, (by assumption), rfl, ?_⟩
      | refine ⟨_, rfl, ?_⟩
      | refine ⟨_, _, rfl, rfl, ?_⟩
      | refine ⟨Nat.le_of_ble_eq_true rfl, fun p hp => ?_⟩
      | refine ⟨_, _, rfl, ?_⟩
      | refine ⟨rfl, ?_⟩
      | refine ⟨mul_ok4 (by assumption) (by assumption), ?_⟩
      | fail)
        rw [decide_eq_true (show V.int ((xs.length : Nat) : Int) = V.int ((ys.length : Nat) : Int) by rw [l1])]
        repeat' (first
      | exact q
      | refine ⟨_, _, _, _, rfl, rfl, (by assumption), rfl, ?_⟩
      | refine ⟨_, _, _, _, true, rfl, .ty _, (by first | exact .base (.int _) | exact ty_tup (by assumption) | exact ty_lst (by assumption)), kit_ty (by decide +kernel), ?_⟩
      | refine ⟨_, _, _, _, false, rfl, .ty _, (by first | exact .base (.int _) | exact ty_tup (by assumption) | exact ty_lst (by assumption)), kit_ty (by decide +kernel), ?_⟩
      | refine ⟨_, _, rfl, .inr (by assumption), ?_⟩
      | refine ⟨_, _, rfl, .inl (by assumption), ?_⟩
      | refine ⟨_, _, rfl, (by assumption), rfl, ?_⟩
      | refine ⟨_, rfl, ?_⟩
      | refine ⟨_, _, rfl, rfl, ?_⟩
      | refine ⟨Nat.le_of_ble_eq_true rfl, fun p hp => ?_⟩
      | refine ⟨_, _, rfl, ?_⟩
      | refine ⟨rfl, ?_⟩
      | refine ⟨mul_ok4 (by assumption) (by assumption), ?_⟩
      | fail)
        refine ⟨fa, da, xs, ys, rfl, .inl ⟨la2, lb2, fun D hD => lc_a (walk_zip rfl l1.symm) (PBl fun _ => true) PBl.m1 PBl.m2 hD l2 (fun H' s => ⟨s.seq la2, s.seq lb2⟩) (fun i x H3 H4 Qy hi s3 yy k => ?_) (fun H3 hacc => ?_)⟩⟩
        · obtain ⟨T1, x0, y0, rfl, hT, rfl, ex, ey⟩ := yy
          have s4 := same_new (o := .tup [x0, y0]) hT
          refine ⟨_, _, rfl, TT.of upd_same, rfl, _, _, rfl, _, _, rfl, rfl, rfl, ?_⟩
          exact ⟨_, rfl, _, rfl, x0, y0, rfl, (z i x0 y0 ex ey).mono (s2.trans (s3.trans s4)), fun H' s' => k _ _ (s4.trans s') rfl⟩
        · obtain ⟨s3, bs, eD, eb⟩ := hacc.allT
          refine ⟨_, _, rfl, SqL.of eD, ?_⟩
          rw [eb]
          exact q _ (s2.trans s3)
      · repeat' (first
      | exact q
      | refine ⟨_, _, _, _, rfl, rfl, (by assumption), rfl, ?_⟩
      | refine ⟨_, _, _, _, true, rfl, .ty _, (by first | exact .base (.int _) | exact ty_tup (by assumption) | exact ty_lst (by assumption)), kit_ty (by decide +kernel), ?_⟩
      | refine ⟨_, _, _, _, false, rfl, .ty _, (by first | exact .base (.int _) | exact ty_tup (by assumption) | exact ty_lst (by assumption)), kit_ty (by decide +kernel), ?_⟩
      | refine ⟨_, _, rfl, .inr (by assumption), ?_⟩
      | refine ⟨_, _, rfl, .inl (by assumption), ?_⟩
      | refine ⟨_, _, rfl, (by assumption), rfl, ?_⟩
      | refine ⟨_, rfl, ?_⟩
      | refine ⟨_, _, rfl, rfl, ?_⟩
      | refine ⟨Nat.le_of_ble_eq_true rfl, fun p hp => ?_⟩
      | refine ⟨_, _, rfl, ?_⟩
      | refine ⟨rfl, ?_⟩
      | refine ⟨mul_ok4 (by assumption) (by assumption), ?_⟩
      | fail)
        have s1 := same_new (o := .tup [.ty "list", .ty "tuple"]) hp
        refine ⟨_, _, _, _, [.type "list", .type "tuple"], true, rfl, upd_same, .cons (.ty _) (.cons (.ty _) .nil), ty_tup (Same.tt s1 lb), rfl, ?_⟩
        generalize L2.upd H _ (.tup [.ty "list", .ty "tuple"]) = H1 at s1 ⊢
        clear hp
        repeat' (first
      | exact q
      | refine ⟨_, _, _, _, rfl, rfl, (by assumption), rfl, ?_⟩
      | refine ⟨_, _, _, _, true, rfl, .ty _, (by first | exact .base (.int _) | exact ty_tup (by assumption) | exact ty_lst (by assumption)), kit_ty (by decide +kernel), ?_⟩
      | refine ⟨_, _, _, _, false, rfl, .ty _, (by first | exact .base (.int _) | exact ty_tup (by assumption) | exact ty_lst (by assumption)), kit_ty (by decide +kernel), ?_⟩
      | refine ⟨_, _, rfl, .inr (by assumption), ?_⟩
      | refine ⟨_, _, rfl, .inl (by assumption), ?_⟩
      | refine ⟨_, _, rfl, (by assumption), rfl, ?_⟩
      | refine ⟨_, rfl, ?_⟩
      | refine ⟨_, _, rfl, rfl, ?_⟩
      | refine ⟨Nat.le_of_ble_eq_true rfl, fun p hp => ?_⟩
      | refine ⟨_, _, rfl, ?_⟩
      | refine ⟨rfl, ?_⟩
      | refine ⟨mul_ok4 (by assumption) (by assumption), ?_⟩
      | fail)
        have s2 := s1.trans (same_new (o := .tup [.ty "list", .ty "tuple"]) hp)
        refine ⟨_, _, _, _, [.type "list", .type "tuple"], true, rfl, upd_same, .cons (.ty _) (.cons (.ty _) .nil), ty_tup (Same.tt s2 la), rfl, ?_⟩
        generalize L2.upd H1 _ (.tup [.ty "list", .ty "tuple"]) = H2 at s2 ⊢
        have la2 := Same.tt s2 la
        have lb2 := Same.tt s2 lb
        repeat' (first
      | exact q
      | refine ⟨_, _, _, _, rfl, rfl, (by assumption), rfl, ?_⟩
      | refine ⟨_, _, _, _, true, rfl, .ty _, (by first | exact .base (.int _) | exact ty_tup (by assumption) | exact ty_lst (by assumption)), kit_ty (by decide +kernel), ?_⟩
      | refine ⟨_, _, _, _, false, rfl, .ty _, (by first | exact .base (.int _) | exact ty_tup (by assumption) | exact ty_lst (by assumption)), kit_ty (by decide +kernel), ?_⟩
      | refine ⟨_, _, rfl, .inr (by assumption), ?_⟩
      | refine ⟨_, _, rfl, .inl (by assumption), ?_⟩
      | refine ⟨_, _, rfl, (by assumption), rfl, ?_⟩
      | refine ⟨_, rfl, ?_⟩
      | refine ⟨_, _, rfl, rfl, ?_⟩
      | refine ⟨Nat.le_of_ble_eq_true rfl, fun p hp => ?_⟩
      | refine ⟨_, _, rfl, ?_⟩
      | refine ⟨rfl, ?_⟩
      | refine ⟨mul_ok4 (by assumption) (by assumption), ?_⟩
      | fail)
        rw [decide_eq_true (show V.int ((xs.length : Nat) : Int) = V.int ((ys.length : Nat) : Int) by rw [l1])]
        repeat' (first
      | exact q
      | refine ⟨_, _, _, _, rfl, rfl, (by assumption), rfl, ?_⟩
      | refine ⟨_, _, _, _, true, rfl, .ty _, (by first | exact .base (.int _) | exact ty_tup (by assumption) | exact ty_lst (by assumption)), kit_ty (by decide +kernel), ?_⟩
      | refine ⟨_, _, _, _, false, rfl, .ty _, (by first | exact .base (.int _) | exact ty_tup (by assumption) | exact ty_lst (by assumption)), kit_ty (by decide +kernel), ?_⟩
      | refine ⟨_, _, rfl, .inr (by assumption), ?_⟩
      | refine ⟨_, _, rfl, .inl (by assumption), ?_⟩
      | refine ⟨_, _, rfl, (by assumption), rfl, ?_⟩
      | refine ⟨_, rfl, ?_⟩
      | refine ⟨_, _, rfl, rfl, ?_⟩
      | refine ⟨Nat.le_of_ble_eq_true rfl, fun p hp => ?_⟩
      | refine ⟨_, _, rfl, ?_⟩
      | refine ⟨rfl, ?_⟩
      | refine ⟨mul_ok4 (by assumption) (by assumption), ?_⟩
      | fail)
        refine ⟨fa, da, xs, ys, rfl, .inr ⟨la2, lb2, fun D hD => lc_a (walk_zipT rfl l1.symm) (PBl fun _ => true) PBl.m1 PBl.m2 hD l2 (fun H' s => ⟨Same.tt s la2, Same.tt s lb2⟩) (fun i x H3 H4 Qy hi s3 yy k => ?_) (fun H3 hacc => ?_)⟩⟩
        · obtain ⟨T1, x0, y0, rfl, hT, rfl, ex, ey⟩ := yy
          have s4 := same_new (o := .tup [x0, y0]) hT
          refine ⟨_, _, rfl, TT.of upd_same, rfl, _, _, rfl, _, _, rfl, rfl, rfl, ?_⟩
          exact ⟨_, rfl, _, rfl, x0, y0, rfl, (z i x0 y0 ex ey).mono (s2.trans (s3.trans s4)), fun H' s' => k _ _ (s4.trans s') rfl⟩
        · obtain ⟨s3, bs, eD, eb⟩ := hacc.allT
          refine ⟨_, _, rfl, SqL.of eD, ?_⟩
          rw [eb]
          exact q _ (s2.trans s3)
end
end FW
end

/-! ## W15 -/
section
set_option Elab.async false
set_option linter.all false
set_option maxRecDepth 100000
set_option maxHeartbeats 4000000
namespace FW
open PySem PySem.Spec PyProof.Rows L2 FF
section
variable {P : Program} {w : World} {K : PySem.W.Frag} {mg : Str → Option Value} {base : Heap}
theorem at2 (x y : Int) (b : Bool) : atI [V.int x, V.int y] (if b = true then (1 : Int) else 0) = some (V.int (if b = true then y else x)) := by cases b <;> rfl
structure RowsOk (n : Nat) (rows : List (List Part)) : Prop where
  good : GoodRows n rows
  num : ∀ r ∈ rows, ∀ p ∈ r, NumOk p.2
structure RawRow (n : Nat) (r : List Part) : Prop where
  inc : (plc r).Pairwise (· < ·)
  ok : ∀ p ∈ r, p.1 < n ∧ NumOk p.2
theorem RawRow.nil : RawRow 0 [] := ⟨.nil, by simp⟩
theorem RawRow.up {n : Nat} {r : List Part} (h : RawRow n r) : RawRow (n + 1) r := ⟨h.inc, fun p hp => ⟨by have := (h.ok p hp).1; omega, (h.ok p hp).2⟩⟩
theorem RawRow.snoc {n : Nat} {r : List Part} {q : Rat} (h : RawRow n r) (hq : NumOk q) : RawRow (n + 1) (r ++ [(n, q)]) := by
  refine ⟨?_, fun p hp => ?_⟩
  · unfold plc
    rw [List.map_append, List.pairwise_append]
    refine ⟨h.inc, by simp, fun a ha b hb => ?_⟩
    obtain ⟨p, hp, rfl⟩ := List.mem_map.mp ha
    simp at hb
    subst hb
    exact (h.ok p hp).1
  · rcases List.mem_append.mp hp with hp | hp
    · exact h.up.ok p hp
    · simp at hp
      subst hp
      exact ⟨by simp, hq⟩
theorem RawRow.good {n : Nat} {r : List Part} (h : RawRow n r) : GoodRow n (r.filter fun p => decide (p.2 ≠ 0)) := by
  refine ⟨?_, fun p hp => ?_⟩
  · have := h.inc
    unfold plc at this
    rw [List.pairwise_map] at this ⊢
    exact this.filter _
  · obtain ⟨h1, h2⟩ := List.mem_filter.mp hp
    exact ⟨(h.ok p h1).1, by simpa using h2⟩
theorem RawRow.len {n : Nat} {r : List Part} (h : RawRow n r) : r.length ≤ n := by
  have h1 : (plc r).Nodup := h.inc.imp (fun h => Nat.ne_of_lt h)
  have := nodup_le h1 (fun a ha => by
    obtain ⟨p, hp, rfl⟩ := List.mem_map.mp ha
    exact (h.ok p hp).1)
  unfold plc at this
  rw [List.length_map] at this
  exact this
theorem range_getP (l : List Part) : (List.range l.length).map (fun k => l.getD k default) = l := by
  refine List.ext_getElem? fun i => ?_
  rw [List.getElem?_map]
  by_cases hi : i < l.length
  · rw [List.getElem?_range hi, List.getElem?_eq_getElem hi]
    simp [List.getD_eq_getElem?_getD, List.getElem?_eq_getElem hi]
  · rw [List.getElem?_eq_none (by rw [List.length_range]; omega), List.getElem?_eq_none (by omega)]; rfl
theorem filt_rangeP {α : Type} (l : List Part) (p : Part → Bool) (g : Part → α) : ((List.range l.length).filter fun k => p (l.getD k default)).map (fun k => g (l.getD k default)) = (l.filter p).map g := by
  have e := range_getP l
  calc ((List.range l.length).filter fun k => p (l.getD k default)).map (fun k => g (l.getD k default)) = (((List.range l.length).map (fun k => l.getD k default)).filter p).map g := by
        rw [List.filter_map, List.map_map]; rfl
    _ = (l.filter p).map g := by rw [e]
theorem getD_P {l : List Part} {i : Nat} {p : Part} (e : l[i]? = some p) : l.getD i default = p := by
  rw [List.getD_eq_getElem?_getD, e]; rfl
def sp_law_rows (K : PySem.W.Frag) : Sp := fun vs H Q _ => ∃ (p : Addr) (n : Nat), vs = [.ref p, .int n] ∧ Pen H p ∧ n ≤ 7 ∧
  ∀ b H' xs rows, Kp [p] H H' → Pen H' p → SqT K H' b xs → RowsP K H' xs rows → RowsOk n rows → Q (.ref b) H'
abbrev s_law_rows : Stmt := topS 46
theorem sc_law_rows : FnScope ["_law_pen_here", "_law_n", "_law_some", "_law_rows_here", "_law_i", "_law_row", "_law_j", "_law_number_here"] ["_law_pen_here", "_law_n"] (defScope s_law_rows) := ⟨rfl, rfl, rfl, by decide +kernel, rfl, by decide +kernel, by decide +kernel⟩
theorem fn_law_rows (T : Tops K mg) : Fn P w K mg base CX0 3 "_law_rows" ["_law_pen_here", "_law_n"] (sp_law_rows K) := by
  have h_law_draw : Fn P w K mg base CX0 2 "_law_draw" _ _ := (fn_law_draw T).mono (by decide)
  have h_law_number : Fn P w K mg base CX0 2 "_law_number" _ _ := (fn_law_number T).mono (by decide)
  refine T.d_law_rows.fn sc_law_rows (fun _ _ _ _ _ _ us hl => match us, hl with | [_, _], _ => rfl) (fun vs H Q E h => ?_) (fun f cdv A outer s H vs Q E hr h => ?_)
  · obtain ⟨p, n, rfl, _⟩ := h; rfl
  · obtain ⟨pn, n, rfl, hpn, n7, q⟩ := h
    refine ⟨_, (pss_cons (ps_set (i := 2) sc_law_rows.nd rfl (.inr rfl) (pe_op op_add pe_int (pe_fn h_law_draw hr pass0 (pa_cons (pv 0) (pa_cons pe_int pa_nil)))))
  (pss_cons (ps_set (i := 3) sc_law_rows.nd rfl (.inl rfl) (pe_lst pa_nil))
  (pss_cons (ps_for PassesOwn.never rfl (pi_range1 (by rfl) T.B.range (pa_cons (pv 1) pa_nil)) (pg_name (i := 4) sc_law_rows.nd rfl (.inr rfl))
  (pss_cons (ps_setLc (i := 5) (own := [("_law_j", 6)]) (g := gName 6) rfl sc_law_rows.nd rfl rfl (sw_true rfl rfl rfl (by decide +kernel)) (pi_range1 (by rfl) T.B.range (pa_cons (pv 1) pa_nil)) (blkOk_by (N := ["_law_pen_here", "_law_n", "_law_some", "_law_rows_here", "_law_i", "_law_row", "_law_j", "_law_number_here"]) (sc := defScope s_law_rows) (by decide +kernel)) (fun _ _ _ _ _ => (pg_name (i := 6) sc_law_rows.nd rfl (.inl rfl))) (fun _ _ _ _ _ => pts_one (pt_cmpR op_lt (pe_fn h_law_draw hr pass0 (pa_cons (pv 0) (pa_cons (pe_ix ix_listK (pe_lst (pa_cons (pv 2) (pa_cons pe_int pa_nil))) (pe_callTy call_int1 (by rfl) T.B.int bo_int (pa_cons (pe_cmpR op_eq (pv 6) (pv 4) (nomark _)) pa_nil)) (fun _ _ => rfl)) pa_nil))) (pe_ix ix_listK (pe_lst (pa_cons pe_int (pa_cons pe_int pa_nil))) (pe_callTy call_int1 (by rfl) T.B.int bo_int (pa_cons (pe_cmpR op_eq (pv 6) (pv 4) (nomark _)) pa_nil)) (fun _ _ => rfl)) (nomark _))) (fun _ _ _ _ _ => (pe_tup (pa_cons (pv 6) (pa_cons (pe_fn h_law_number hr pass0 (pa_cons (pv 0) pa_nil)) pa_nil)))))
  (pss_one (ps_expr (pe_bm PySem.F.plainAttrs_list PySem.F.slot_list_append PySem.F.type_list_append mt_append (pv 3) (pa_cons (pe_callTy call_tupleN (by rfl) T.B.tuple bo_tuple (pa_cons (pe_lc (own := [("_law_j", 6), ("_law_number_here", 7)]) (g := gTup K 2 (gCons (gName 6) (gCons (gName 7) (gNil)))) rfl sc_law_rows.nd (pi_list (pv 5)) (blkOk_by (N := ["_law_pen_here", "_law_n", "_law_some", "_law_rows_here", "_law_i", "_law_row", "_law_j", "_law_number_here"]) (sc := defScope s_law_rows) (by decide +kernel)) (fun _ _ _ _ _ => (pg_tup rfl (pgs_cons (pg_name (i := 6) sc_law_rows.nd rfl (.inl rfl)) (pgs_cons (pg_name (i := 7) sc_law_rows.nd rfl (.inl rfl)) pgs_nil)))) (fun _ _ _ _ _ => pts_one (pt_cmpR op_ne (pe_ix ix_tupK (pv 7) pe_int (fun _ _ => rfl)) pe_int (nomark _))) (fun _ _ _ _ _ => (pe_tup (pa_cons (pv 6) (pa_cons (pv 7) pa_nil))))) pa_nil)) pa_nil))))))
  (pss_one (ps_ret (pe_callTy call_tuple_ofK (by rfl) T.B.tuple bo_tuple (pa_cons (pv 3) pa_nil))))))), ?_⟩
    repeat' (first
      | exact q
      | refine ⟨_, _, _, _, rfl, rfl, (by assumption), rfl, ?_⟩
      | refine ⟨_, _, _, _, true, rfl, .ty _, (by first | exact .base (.int _) | exact ty_tup (by assumption) | exact ty_lst (by assumption)), kit_ty (by decide +kernel), ?_⟩
      | refine ⟨_, _, _, _, false, rfl, .ty _, (by first | exact .base (.int _) | exact ty_tup (by assumption) | exact ty_lst (by assumption)), kit_ty (by decide +kernel), ?_⟩
      | refine ⟨_, _, rfl, .inr (by assumption), ?_⟩
      | refine ⟨_, _, rfl, .inl (by assumption), ?_⟩
      | refine ⟨_, _, rfl, (by assumption), rfl, ?_⟩
      | refine ⟨_, rfl, ?_⟩
      | refine ⟨_, _, rfl, rfl, ?_⟩
      | refine ⟨Nat.le_of_ble_eq_true rfl, fun p hp => ?_⟩
      | refine ⟨_, _, rfl, ?_⟩
      | refine ⟨rfl, ?_⟩
      | refine ⟨mul_ok4 (by assumption) (by assumption), ?_⟩
      | fail)
    refine ⟨hpn, by omega, by omega, ?_⟩
    rintro _ H1 k1 p1 ⟨d, rfl, d0, d1⟩
    repeat' (first
      | exact q
      | refine ⟨_, _, _, _, rfl, rfl, (by assumption), rfl, ?_⟩
      | refine ⟨_, _, _, _, true, rfl, .ty _, (by first | exact .base (.int _) | exact ty_tup (by assumption) | exact ty_lst (by assumption)), kit_ty (by decide +kernel), ?_⟩
      | refine ⟨_, _, _, _, false, rfl, .ty _, (by first | exact .base (.int _) | exact ty_tup (by assumption) | exact ty_lst (by assumption)), kit_ty (by decide +kernel), ?_⟩
      | refine ⟨_, _, rfl, .inr (by assumption), ?_⟩
      | refine ⟨_, _, rfl, .inl (by assumption), ?_⟩
      | refine ⟨_, _, rfl, (by assumption), rfl, ?_⟩
      | refine ⟨_, rfl, ?_⟩
      | refine ⟨_, _, rfl, rfl, ?_⟩
      | refine ⟨Nat.le_of_ble_eq_true rfl, fun p hp => ?_⟩
      | refine ⟨_, _, rfl, ?_⟩
      | refine ⟨rfl, ?_⟩
      | refine ⟨mul_ok4 (by assumption) (by assumption), ?_⟩
      | fail)
    revert p
    intro M hM
    have hMn : M ≠ pn := fun z => by obtain ⟨i, j, k, e⟩ := p1; rw [← z, hM] at e; cases e
    have sM := same_new (o := .lst []) hM
    refine ⟨by omega, by omega, for_it walk_range (fun k σ H' => ∃ x4 x5 x6 x7, σ = [some (.ref pn), some (.int n), some (.int (1 + d)), some (.ref M), x4, x5, x6, x7] ∧ Kp [pn] H1 H' ∧ Pen H' pn ∧ ∃ xs rows, H' M = some (.lst xs) ∧ RowsP K H' xs rows ∧ rows.length = k ∧ (∀ r ∈ rows, GoodRow n r) ∧ ∀ r ∈ rows, ∀ p ∈ r, NumOk p.2)
      ⟨none, none, none, none, rfl, sM.kp, p1.mono sM, [], [], upd_same, ⟨rfl, fun i x r e => by simp at e⟩, rfl, by simp, by simp⟩ (fun _ _ _ _ _ => True.intro) ?_ ?_⟩
    · rintro k x σ H0 H2 hk ⟨x4, x5, x6, x7, rfl, k2, p2, xs, rows, eM, rp, lr, gr, nr⟩ ⟨rfl, rfl⟩
      have hk' : k < n := by simpa using hk
      repeat' (first
      | exact q
      | refine ⟨_, _, _, _, rfl, rfl, (by assumption), rfl, ?_⟩
      | refine ⟨_, _, _, _, true, rfl, .ty _, (by first | exact .base (.int _) | exact ty_tup (by assumption) | exact ty_lst (by assumption)), kit_ty (by decide +kernel), ?_⟩
      | refine ⟨_, _, _, _, false, rfl, .ty _, (by first | exact .base (.int _) | exact ty_tup (by assumption) | exact ty_lst (by assumption)), kit_ty (by decide +kernel), ?_⟩
      | refine ⟨_, _, rfl, .inr (by assumption), ?_⟩
      | refine ⟨_, _, rfl, .inl (by assumption), ?_⟩
      | refine ⟨_, _, rfl, (by assumption), rfl, ?_⟩
      | refine ⟨_, rfl, ?_⟩
      | refine ⟨_, _, rfl, rfl, ?_⟩
      | refine ⟨Nat.le_of_ble_eq_true rfl, fun p hp => ?_⟩
      | refine ⟨_, _, rfl, ?_⟩
      | refine ⟨rfl, ?_⟩
      | refine ⟨mul_ok4 (by assumption) (by assumption), ?_⟩
      | fail)
      refine ⟨by omega, by omega, fun D hD => lc_it walk_range (fun i H' => Kp [pn] H2 H' ∧ Pen H' pn ∧ ∃ ys r, H' D = some (.lst ys) ∧ ImAll K H' ys (r.map partD) ∧ RawRow i r) ?_ (fun _ _ _ _ => True.intro) (fun j x H0 H3 hj h3 yy => ?_) (fun H3 h3 => ?_)⟩
      · have sD := same_new (o := .lst []) hD
        exact ⟨sD.kp, p2.mono sD, [], [], upd_same, .nil, .nil⟩
      · obtain ⟨k3, p3, ys, r, eD, iy, rr⟩ := h3
        obtain ⟨rfl, rfl⟩ := yy
        have hDn : D ≠ pn := fun z => by obtain ⟨i, j, k, e⟩ := p2; rw [← z, hD] at e; cases e
        refine ⟨rfl, ?_⟩
        repeat' (first
      | exact q
      | refine ⟨_, _, _, _, rfl, rfl, (by assumption), rfl, ?_⟩
      | refine ⟨_, _, _, _, true, rfl, .ty _, (by first | exact .base (.int _) | exact ty_tup (by assumption) | exact ty_lst (by assumption)), kit_ty (by decide +kernel), ?_⟩
      | refine ⟨_, _, _, _, false, rfl, .ty _, (by first | exact .base (.int _) | exact ty_tup (by assumption) | exact ty_lst (by assumption)), kit_ty (by decide +kernel), ?_⟩
      | refine ⟨_, _, rfl, .inr (by assumption), ?_⟩
      | refine ⟨_, _, rfl, .inl (by assumption), ?_⟩
      | refine ⟨_, _, rfl, (by assumption), rfl, ?_⟩
      | refine ⟨_, rfl, ?_⟩
      | refine ⟨_, _, rfl, rfl, ?_⟩
      | refine ⟨Nat.le_of_ble_eq_true rfl, fun p hp => ?_⟩
      | refine ⟨_, _, rfl, ?_⟩
      | refine ⟨rfl, ?_⟩
      | refine ⟨mul_ok4 (by assumption) (by assumption), ?_⟩
      | fail)
        generalize hb : decide (V.int (0 + (j : Nat)) = V.int (0 + (k : Nat))) = b
        have s4 := same_new (o := .lst [.int (1 + d), .int 4]) hp
        refine .inr ⟨_, rfl, _, _, _, _, rfl, rfl, SqL.of upd_same, at2 (1 + d) 4 b, ?_⟩
        have hd : 0 < (if b = true then 4 else 1 + d) ∧ (if b = true then 4 else 1 + d) < 1073741824 := by cases b <;> simp <;> omega
        have p4 := p3.mono s4
        have eD4 := s4 _ _ eD
        have iy4 := iy.mono s4.tup
        have k4 := k3.trans s4.kp
        generalize L2.upd H3 p (.lst [.int (1 + d), .int 4]) = H4 at p4 eD4 iy4 k4 ⊢
        refine ⟨pn, _, rfl, p4, hd.1, hd.2, ?_⟩
        rintro _ H5 k5 p5 ⟨e, rfl, e0, e1⟩
        have eD5 := k5 D _ (by simpa using hDn) eD4
        have iy5 := iy4.mono (k5.tup p4.mob)
        have k35 := k4.trans k5
        clear hp
        repeat' (first
      | exact q
      | refine ⟨_, _, _, _, rfl, rfl, (by assumption), rfl, ?_⟩
      | refine ⟨_, _, _, _, true, rfl, .ty _, (by first | exact .base (.int _) | exact ty_tup (by assumption) | exact ty_lst (by assumption)), kit_ty (by decide +kernel), ?_⟩
      | refine ⟨_, _, _, _, false, rfl, .ty _, (by first | exact .base (.int _) | exact ty_tup (by assumption) | exact ty_lst (by assumption)), kit_ty (by decide +kernel), ?_⟩
      | refine ⟨_, _, rfl, .inr (by assumption), ?_⟩
      | refine ⟨_, _, rfl, .inl (by assumption), ?_⟩
      | refine ⟨_, _, rfl, (by assumption), rfl, ?_⟩
      | refine ⟨_, rfl, ?_⟩
      | refine ⟨_, _, rfl, rfl, ?_⟩
      | refine ⟨Nat.le_of_ble_eq_true rfl, fun p hp => ?_⟩
      | refine ⟨_, _, rfl, ?_⟩
      | refine ⟨rfl, ?_⟩
      | refine ⟨mul_ok4 (by assumption) (by assumption), ?_⟩
      | fail)
        rw [hb]
        have s6 := same_new (o := .lst [.int 1, .int 3]) hp
        refine .inr ⟨_, rfl, _, _, _, _, rfl, rfl, SqL.of upd_same, at2 1 3 b, ?_⟩
        have p6 := p5.mono s6
        have eD6 := s6 _ _ eD5
        have iy6 := iy5.mono s6.tup
        have k6 := k35.trans s6.kp
        generalize L2.upd H5 p (.lst [.int 1, .int 3]) = H6 at p6 eD6 iy6 k6 ⊢
        clear hp
        repeat' (first
      | exact q
      | refine ⟨_, _, _, _, rfl, rfl, (by assumption), rfl, ?_⟩
      | refine ⟨_, _, _, _, true, rfl, .ty _, (by first | exact .base (.int _) | exact ty_tup (by assumption) | exact ty_lst (by assumption)), kit_ty (by decide +kernel), ?_⟩
      | refine ⟨_, _, _, _, false, rfl, .ty _, (by first | exact .base (.int _) | exact ty_tup (by assumption) | exact ty_lst (by assumption)), kit_ty (by decide +kernel), ?_⟩
      | refine ⟨_, _, rfl, .inr (by assumption), ?_⟩
      | refine ⟨_, _, rfl, .inl (by assumption), ?_⟩
      | refine ⟨_, _, rfl, (by assumption), rfl, ?_⟩
      | refine ⟨_, rfl, ?_⟩
      | refine ⟨_, _, rfl, rfl, ?_⟩
      | refine ⟨Nat.le_of_ble_eq_true rfl, fun p hp => ?_⟩
      | refine ⟨_, _, rfl, ?_⟩
      | refine ⟨rfl, ?_⟩
      | refine ⟨mul_ok4 (by assumption) (by assumption), ?_⟩
      | fail)
        rcases Bool.eq_false_or_eq_true (decide (e < (if b = true then 3 else 1))) with hc | hc <;> rw [hc]
        · refine ⟨_, rfl, _, rfl, pn, rfl, p6, ?_⟩
          rintro v H7 k7 p7 ⟨qv, hq, iv⟩
          have eD7 := k7 D _ (by simpa using hDn) eD6
          have iy7 := iy6.mono (k7.tup p6.mob)
          refine ⟨Nat.le_of_ble_eq_true rfl, fun p hp => ?_⟩
          have s8 := same_new (o := .tup [.int (0 + (j : Nat)), v]) hp
          have i8 : Im K (L2.upd H7 p (.tup [.int (0 + (j : Nat)), v])) (.ref p) (partD (j, qv)) := .tup (.of upd_same) (.cons (by rw [Int.zero_add]; exact .int _) (.cons (iv.mono s8.tup) .nil))
          have p8 := p7.mono s8
          have eD8 := s8 _ _ eD7
          have iy8 := iy7.mono s8.tup
          have k8 := (k6.trans k7).trans s8.kp
          generalize L2.upd H7 p (.tup [.int (0 + (j : Nat)), v]) = H8 at p8 eD8 iy8 k8 i8 ⊢
          have tm : Tup H8 (L2.upd H8 D (.lst (ys ++ [.ref p]))) := .lst eD8
          refine ⟨ys, eD8, small1000 (by rw [iy8.length, List.length_map]; have := rr.len; simp at hj; omega), k8.mut hD, ?_, ys ++ [.ref p], r ++ [(j, qv)], upd_same, ?_, rr.snoc hq⟩
          · obtain ⟨i, j, l, e⟩ := p8
            exact ⟨i, j, l, by rw [upd_ne (Ne.symm hDn)]; exact e⟩
          · rw [List.map_append]
            exact (iy8.mono tm).append (.one (i8.mono tm))
        · exact ⟨k6, p6, ys, r, eD6, iy6, rr.up⟩
      · obtain ⟨k3, p3, ys, r, eD, iy, rr⟩ := h3
        have hDn : D ≠ pn := fun z => by obtain ⟨i, j, k, e⟩ := p2; rw [← z, hD] at e; cases e
        have hDM : D ≠ M := fun z => by rw [z, eM] at hD; cases hD
        have rr : RawRow n r := by simpa using rr
        have eM3 := k3 M _ (by simpa using hMn) eM
        have rp3 := rp.mono (k3.tup p2.mob)
        have lys : ys.length = r.length := by rw [iy.length, List.length_map]
        have rl := rr.len
        repeat' (first
      | exact q
      | refine ⟨_, _, _, _, rfl, rfl, (by assumption), rfl, ?_⟩
      | refine ⟨_, _, _, _, true, rfl, .ty _, (by first | exact .base (.int _) | exact ty_tup (by assumption) | exact ty_lst (by assumption)), kit_ty (by decide +kernel), ?_⟩
      | refine ⟨_, _, _, _, false, rfl, .ty _, (by first | exact .base (.int _) | exact ty_tup (by assumption) | exact ty_lst (by assumption)), kit_ty (by decide +kernel), ?_⟩
      | refine ⟨_, _, rfl, .inr (by assumption), ?_⟩
      | refine ⟨_, _, rfl, .inl (by assumption), ?_⟩
      | refine ⟨_, _, rfl, (by assumption), rfl, ?_⟩
      | refine ⟨_, rfl, ?_⟩
      | refine ⟨_, _, rfl, rfl, ?_⟩
      | refine ⟨Nat.le_of_ble_eq_true rfl, fun p hp => ?_⟩
      | refine ⟨_, _, rfl, ?_⟩
      | refine ⟨rfl, ?_⟩
      | refine ⟨mul_ok4 (by assumption) (by assumption), ?_⟩
      | fail)
        refine ⟨.inl ⟨rfl, _, SqL.of eM3⟩, ?_⟩
        repeat' (first
      | exact q
      | refine ⟨_, _, _, _, rfl, rfl, (by assumption), rfl, ?_⟩
      | refine ⟨_, _, _, _, true, rfl, .ty _, (by first | exact .base (.int _) | exact ty_tup (by assumption) | exact ty_lst (by assumption)), kit_ty (by decide +kernel), ?_⟩
      | refine ⟨_, _, _, _, false, rfl, .ty _, (by first | exact .base (.int _) | exact ty_tup (by assumption) | exact ty_lst (by assumption)), kit_ty (by decide +kernel), ?_⟩
      | refine ⟨_, _, rfl, .inr (by assumption), ?_⟩
      | refine ⟨_, _, rfl, .inl (by assumption), ?_⟩
      | refine ⟨_, _, rfl, (by assumption), rfl, ?_⟩
      | refine ⟨_, rfl, ?_⟩
      | refine ⟨_, _, rfl, rfl, ?_⟩
      | refine ⟨Nat.le_of_ble_eq_true rfl, fun p hp => ?_⟩
      | refine ⟨_, _, rfl, ?_⟩
      | refine ⟨rfl, ?_⟩
      | refine ⟨mul_ok4 (by assumption) (by assumption), ?_⟩
      | fail)
        refine ⟨⟨_, SqL.of eD⟩, fun D2 hD2 => lc_f (walk_list (xs := ys)) (fun t => decide ((r.getD t default).2 ≠ 0)) (PIm K fun t => partD (r.getD t default)) PIm.m1 PIm.m2 hD2 (by omega) (fun H' s => SqL.of (s _ _ eD)) (fun t x H4 H5 Qy Qn ht s4 yy ky kn => ?_) (fun H4 hacc => ?_)⟩
        · obtain ⟨rfl, ey⟩ := yy
          obtain ⟨pt, ep, ip⟩ := imAll_at iy s4 ey
          obtain ⟨T1, z, rfl, tt, iz⟩ := part_inv ip
          obtain ⟨T2, rfl, tz⟩ := id (num_inv iz)
          rw [getD_P ep] at ky kn
          refine ⟨_, _, rfl, tt, rfl, _, _, rfl, _, _, rfl, rfl, rfl, ?_⟩
          refine ⟨_, rfl, _, _, _, _, rfl, rfl, tz, rfl, rfl, ?_⟩
          by_cases hz : pt.2 = 0
          · rw [decide_eq_true (show V.int pt.2.num = V.int 0 by rw [hz]; rfl)]
            exact ⟨_, rfl, kn (by simp [hz]) _ (Same.refl _)⟩
          · rw [decide_eq_false (show ¬ V.int pt.2.num = V.int 0 from fun z => hz (Rat.num_eq_zero.mp (V.int.inj z)))]
            refine ⟨_, rfl, _, rfl, _, rfl, Nat.le_of_ble_eq_true rfl, fun p hp => ky (by simp [hz]) _ _ (same_new hp) ?_⟩
            show Im K _ (.ref p) (partD (r.getD t default))
            rw [getD_P ep]
            exact .tup (.of upd_same) (.cons (.int _) (.cons (iz.mono (same_new hp).tup) .nil))
        · obtain ⟨ys2, s4, eD2, iy2⟩ := hacc.im
          rw [lys, filt_rangeP r (fun p => decide (p.2 ≠ 0)) partD] at iy2
          refine ⟨D2, ys2, rfl, SqL.of eD2, fun l ob hob hl => ?_⟩
          have sl := same_new (o := .frz ob (.tup ys2)) hl
          have eM4 := sl _ _ (s4 _ _ eM3)
          have k4 : Kp [pn] H1 (L2.upd H4 l (.frz ob (.tup ys2))) := (k2.trans k3).trans (s4.trans sl).kp
          have p4 := p3.mono (s4.trans sl)
          have rp4 := rp3.mono (s4.trans sl).tup
          have iy4 := iy2.mono sl.tup
          have pl : PlainT (L2.upd H4 l (.frz ob (.tup ys2))) l ys2 := ⟨ob, hob, upd_same⟩
          generalize L2.upd H4 l (.frz ob (.tup ys2)) = H5 at eM4 k4 p4 rp4 iy4 pl ⊢
          have tm : Tup H5 (L2.upd H5 M (.lst (xs ++ [.ref l]))) := .lst eM4
          refine ⟨_, _, _, rfl, rfl, eM4, small1000 (by rw [rp4.1]; omega), ?_⟩
          refine ⟨_, _, _, _, rfl, k4.mut hM, ?_, xs ++ [.ref l], rows ++ [r.filter fun p => decide (p.2 ≠ 0)], upd_same, ⟨by simp [rp4.1], fun i x r' e1 e2 => ?_⟩, by simp [lr], fun r' hr' => ?_, fun r' hr' p hp => ?_⟩
          · obtain ⟨i, j, l', e⟩ := p4
            exact ⟨i, j, l', by rw [upd_ne (Ne.symm hMn)]; exact e⟩
          · have rp5 := rp4.mono tm
            by_cases hi : i < xs.length
            · rw [List.getElem?_append_left hi] at e1
              rw [List.getElem?_append_left (by rw [← rp4.1]; exact hi)] at e2
              exact rp5.2 i x r' e1 e2
            · have hl' := rp4.1
              have : i = xs.length := by
                have := (List.getElem?_eq_some_iff.mp e1).1
                simp at this
                omega
              subst this
              rw [List.getElem?_append_right (Nat.le_refl _)] at e1
              rw [hl', List.getElem?_append_right (Nat.le_refl _)] at e2
              simp at e1 e2
              subst e1 e2
              exact ⟨l, ys2, rfl, pl.mono tm, by simpa using iy4.mono tm⟩
          · rcases List.mem_append.mp hr' with h | h
            · exact gr r' h
            · rw [List.mem_singleton.mp h]; exact rr.good
          · rcases List.mem_append.mp hr' with h | h
            · exact nr r' h p hp
            · rw [List.mem_singleton.mp h] at hp; exact (rr.ok p (List.mem_filter.mp hp).1).2
    · rintro σ H2 ⟨x4, x5, x6, x7, rfl, k2, p2, xs, rows, eM, rp, lr, gr, nr⟩
      have lr : rows.length = n := by simpa using lr
      refine ⟨_, rfl, M, xs, rfl, .inl ⟨SqL.of eM, fun l hl => ?_⟩⟩
      have sl := same_new (o := .tup xs) hl
      exact q l _ xs rows ((k1.trans k2).trans sl.kp) (p2.mono sl) (.of upd_same) (rp.mono sl.tup) ⟨⟨lr, by omega, gr⟩, nr⟩
end
end FW
end

/-! ## W16 -/
section
set_option Elab.async false
set_option linter.all false
set_option maxRecDepth 100000
set_option maxHeartbeats 4000000
namespace FW
open PySem PySem.Spec PyProof.Rows L2 FF
/-! ### the sure sheets' numbers -/
def gq (q : Rat) : Rat := Rat.divInt (q.num.fmod 9 - 4) (1 + (q.den : Int).fmod 3)
theorem six_of {t s : Int} (ht : -4 ≤ t ∧ t ≤ 4) (hs : s = 1 ∨ s = 2 ∨ s = 3) : ∃ x : Int, Rat.divInt t s * ((6 : Int) : Rat) = (x : Rat) ∧ x.natAbs ≤ 24 := by
  rcases hs with rfl | rfl | rfl
  · refine ⟨6 * t, ?_, by omega⟩
    rw [Rat.divInt_eq_div, Rat.intCast_mul]
    have h1 : ((1 : Int) : Rat) = 1 := rfl
    rw [h1]; grind
  · refine ⟨3 * t, ?_, by omega⟩
    rw [Rat.divInt_eq_div, Rat.intCast_mul]
    have h1 : ((2 : Int) : Rat) = 2 := rfl
    have h2 : ((6 : Int) : Rat) = 6 := rfl
    have h3 : ((3 : Int) : Rat) = 3 := rfl
    rw [h1, h2, h3]; grind
  · refine ⟨2 * t, ?_, by omega⟩
    rw [Rat.divInt_eq_div, Rat.intCast_mul]
    have h1 : ((2 : Int) : Rat) = 2 := rfl
    have h2 : ((6 : Int) : Rat) = 6 := rfl
    have h3 : ((3 : Int) : Rat) = 3 := rfl
    rw [h1, h2, h3]; grind
theorem gq_s (q : Rat) : (-4 ≤ q.num.fmod 9 - 4 ∧ q.num.fmod 9 - 4 ≤ 4) ∧ (1 + (q.den : Int).fmod 3 = 1 ∨ 1 + (q.den : Int).fmod 3 = 2 ∨ 1 + (q.den : Int).fmod 3 = 3) := by
  obtain ⟨a, b⟩ := fmod_b (x := q.num) (m := 9) (by omega)
  obtain ⟨c, d⟩ := fmod_b (x := (q.den : Int)) (m := 3) (by omega)
  omega
theorem gq_six (q : Rat) : ∃ x : Int, gq q * ((6 : Int) : Rat) = (x : Rat) ∧ x.natAbs ≤ 24 := six_of (gq_s q).1 (gq_s q).2
theorem sm_six {q : Rat} {x : Int} (e : q * ((6 : Int) : Rat) = (x : Rat)) (h : x.natAbs ≤ 100000) : Sm q :=
  Bd.mono (Bd.of_mul (k := 20) (by decide) e (Nat.lt_of_le_of_lt h (by decide)) (by decide)) (by decide)
theorem gq_sm (q : Rat) : Sm (gq q) := by
  obtain ⟨x, e, h⟩ := gq_six q
  exact sm_six e (by omega)
theorem ab_parts (q : Rat) : (ab q).num = (if q.num < 0 then -q.num else q.num) ∧ (ab q).den = q.den := by
  unfold ab
  by_cases h : q < 0
  · have : q.num < 0 := by
      have := Rat.num_nonneg (q := q)
      rcases Int.lt_or_le q.num 0 with z | z
      · exact z
      · exact absurd (this.mp z) (by grind)
    rw [if_pos h, if_pos this]
    exact ⟨rfl, rfl⟩
  · have : ¬ q.num < 0 := by
      have := (Rat.num_nonneg (q := q)).mpr (by grind)
      omega
    rw [if_neg h, if_neg this]
    exact ⟨rfl, rfl⟩
/-- the sum of the sizes -/
def asum : List Part → Rat
  | [] => 0
  | p :: r => ab p.2 + asum r
theorem asum_snoc (p : Part) : ∀ r : List Part, asum (r ++ [p]) = asum r + ab p.2
  | [] => by show ab p.2 + 0 = 0 + ab p.2; grind
  | a :: r => by show ab a.2 + asum (r ++ [p]) = ab a.2 + asum r + ab p.2; rw [asum_snoc p r]; grind
theorem ab_six {q : Rat} {x : Int} (e : q * ((6 : Int) : Rat) = (x : Rat)) : ab q * ((6 : Int) : Rat) = ((x.natAbs : Int) : Rat) := by
  have h6 : ((6 : Int) : Rat) = 6 := rfl
  unfold ab
  rcases Int.lt_or_le x 0 with hx | hx
  · have : (x.natAbs : Int) = -x := by omega
    have hxr : (x : Rat) < 0 := by exact_mod_cast hx
    rw [this, Rat.intCast_neg, ← e, if_pos (by rw [h6] at e; grind)]
    grind
  · have : (x.natAbs : Int) = x := by omega
    have hxr : (0 : Rat) ≤ (x : Rat) := by exact_mod_cast hx
    rw [this, ← e, if_neg (by rw [h6] at e; grind)]
theorem asum_six : ∀ {r : List Part}, (∀ p ∈ r, ∃ x : Int, p.2 * ((6 : Int) : Rat) = (x : Rat) ∧ x.natAbs ≤ 24) → ∃ x : Int, asum r * ((6 : Int) : Rat) = (x : Rat) ∧ x.natAbs ≤ 24 * r.length
  | [], _ => ⟨0, by show (0 : Rat) * _ = _; grind, by simp⟩
  | p :: r, h => by
    obtain ⟨x, e, hx⟩ := h p List.mem_cons_self
    obtain ⟨y, f, hy⟩ := asum_six (r := r) fun q hq => h q (List.mem_cons_of_mem _ hq)
    refine ⟨(x.natAbs : Int) + y, ?_, by simp; omega⟩
    rw [Rat.intCast_add, ← ab_six e, ← f]
    show (ab p.2 + asum r) * _ = _
    grind
theorem asum_nn : ∀ r : List Part, 0 ≤ asum r
  | [] => by show (0 : Rat) ≤ 0; grind
  | p :: r => by
    have := ab_nonneg p.2
    have := asum_nn r
    show 0 ≤ ab p.2 + asum r
    grind
structure SureRow (n i : Nat) (r : List Part) : Prop where
  good : GoodRow n r
  ex : ∃ (b : List Part) (d : Int), 1 ≤ d ∧ d ≤ 3 ∧ r.Perm (b ++ [(i, (d : Rat) + asum b)]) ∧ (plc b).Nodup ∧ ∀ p ∈ b, p.1 < n ∧ p.1 ≠ i ∧ p.2 ≠ 0 ∧ ∃ x : Int, p.2 * ((6 : Int) : Rat) = (x : Rat) ∧ x.natAbs ≤ 24
section
variable {P : Program} {w : World} {K : PySem.W.Frag} {mg : Str → Option Value} {base : Heap}
def sp_law_above_all (K : PySem.W.Frag) : Sp := fun vs H Q _ => ∃ (p b : Addr) (n : Nat) (xs : List V) (rows : List (List Part)), vs = [.ref p, .ref b] ∧ Pen H p ∧ SqT K H b xs ∧ RowsP K H xs rows ∧ RowsOk n rows ∧ n ≤ 7 ∧
  ∀ b' H' xs' rows', Kp [p] H H' → Pen H' p → SqT K H' b' xs' → RowsP K H' xs' rows' → rows'.length = n → (∀ (i : Nat) (r : List Part), rows'[i]? = some r → SureRow n i r) → Q (.ref b') H'
abbrev s_law_above_all : Stmt := topS 58
theorem sc_law_above_all : FnScope ["_law_pen_here", "_law_rows_here", "_law_found", "_law_i", "_law_row", "_law_beside", "_law_whole_here", "_law_j", "_law_number_here"] ["_law_pen_here", "_law_rows_here"] (defScope s_law_above_all) := ⟨rfl, rfl, rfl, by decide +kernel, rfl, by decide +kernel, by decide +kernel⟩
theorem fn_law_above_all (T : Tops K mg) : Fn P w K mg base CX0 4 "_law_above_all" ["_law_pen_here", "_law_rows_here"] (sp_law_above_all K) := by
  have h_law_plus : Fn P w K mg base CX0 3 "_law_plus" _ _ := (fn_law_plus T).mono (by decide)
  have h_law_lowest : Fn P w K mg base CX0 3 "_law_lowest" _ _ := (fn_law_lowest T).mono (by decide)
  have h_law_draw : Fn P w K mg base CX0 3 "_law_draw" _ _ := (fn_law_draw T).mono (by decide)
  refine T.d_law_above_all.fn sc_law_above_all (fun _ _ _ _ _ _ us hl => match us, hl with | [_, _], _ => rfl) (fun vs H Q E h => ?_) (fun f cdv A outer s H vs Q E hr h => ?_)
  · obtain ⟨p, b, n, xs, rows, rfl, _⟩ := h; rfl
  · obtain ⟨pn, b, n, xs, rows, rfl, hpn, tb, rp, ok, n7, q⟩ := h
    have lx : xs.length = n := by rw [rp.1, ok.good.1]
    refine ⟨_, (pss_cons (ps_set (i := 2) sc_law_above_all.nd rfl (.inl rfl) (pe_lst pa_nil))
  (pss_cons (ps_for PassesOwn.never rfl (pi_enumT (by rfl) T.B.enumerate (pa_cons (pv 1) pa_nil)) (pg_tup rfl (pgs_cons (pg_name (i := 3) sc_law_above_all.nd rfl (.inr rfl)) (pgs_cons (pg_name (i := 4) sc_law_above_all.nd rfl (.inl rfl)) pgs_nil)))
  (pss_cons (ps_setLc (i := 5) (own := [("_law_j", 7), ("_law_number_here", 8)]) (g := gTup K 2 (gCons (gName 7) (gCons (gName 8) (gNil)))) rfl sc_law_above_all.nd rfl rfl (sw_true rfl rfl rfl (by decide +kernel)) (pi_tup (pv 4)) (blkOk_by (N := ["_law_pen_here", "_law_rows_here", "_law_found", "_law_i", "_law_row", "_law_beside", "_law_whole_here", "_law_j", "_law_number_here"]) (sc := defScope s_law_above_all) (by decide +kernel)) (fun _ _ _ _ _ => (pg_tup rfl (pgs_cons (pg_name (i := 7) sc_law_above_all.nd rfl (.inl rfl)) (pgs_cons (pg_name (i := 8) sc_law_above_all.nd rfl (.inl rfl)) pgs_nil)))) (fun _ _ _ _ _ => pts_one (pt_cmpR op_ne (pv 7) (pv 3) (nomark _))) (fun _ _ _ _ _ => (pe_tup (pa_cons (pv 7) (pa_cons (pe_fn h_law_lowest hr pass0 (pa_cons (pe_op op_sub (pe_op op_modN (pe_ix ix_tupK (pv 8) pe_int (fun _ _ => rfl)) pe_int) pe_int) (pa_cons (pe_op op_add pe_int (pe_op op_modN (pe_ix ix_tupK (pv 8) pe_int (fun _ _ => rfl)) pe_int)) pa_nil))) pa_nil)))))
  (pss_cons (ps_setLc (i := 5) (own := [("_law_j", 7), ("_law_number_here", 8)]) (g := gTup K 2 (gCons (gName 7) (gCons (gName 8) (gNil)))) rfl sc_law_above_all.nd rfl rfl (sw_true rfl rfl rfl (by decide +kernel)) (pi_list (pv 5)) (blkOk_by (N := ["_law_pen_here", "_law_rows_here", "_law_found", "_law_i", "_law_row", "_law_beside", "_law_whole_here", "_law_j", "_law_number_here"]) (sc := defScope s_law_above_all) (by decide +kernel)) (fun _ _ _ _ _ => (pg_tup rfl (pgs_cons (pg_name (i := 7) sc_law_above_all.nd rfl (.inl rfl)) (pgs_cons (pg_name (i := 8) sc_law_above_all.nd rfl (.inl rfl)) pgs_nil)))) (fun _ _ _ _ _ => pts_one (pt_cmpR op_ne (pe_ix ix_tupK (pv 8) pe_int (fun _ _ => rfl)) pe_int (nomark _))) (fun _ _ _ _ _ => (pe_tup (pa_cons (pv 7) (pa_cons (pv 8) pa_nil)))))
  (pss_cons (ps_set (i := 6) sc_law_above_all.nd rfl (.inl rfl) (pe_tup (pa_cons (pe_op op_add pe_int (pe_fn h_law_draw hr pass0 (pa_cons (pv 0) (pa_cons pe_int pa_nil)))) (pa_cons pe_int pa_nil))))
  (pss_cons (ps_for PassesOwn.never rfl (pi_list (pv 5)) (pg_tup rfl (pgs_cons (pg_name (i := 7) sc_law_above_all.nd rfl (.inl rfl)) (pgs_cons (pg_name (i := 8) sc_law_above_all.nd rfl (.inl rfl)) pgs_nil)))
  (pss_one (ps_set (i := 6) sc_law_above_all.nd rfl (.inl rfl) (pe_fn h_law_plus hr pass0 (pa_cons (pv 6) (pa_cons (pe_tup (pa_cons (pe_callB call_abs (by rfl) T.B.abs bo_abs (pa_cons (pe_ix ix_tupK (pv 8) pe_int (fun _ _ => rfl)) pa_nil)) (pa_cons (pe_ix ix_tupK (pv 8) pe_int (fun _ _ => rfl)) pa_nil))) pa_nil))))))
  (pss_one (ps_expr (pe_bm PySem.F.plainAttrs_list PySem.F.slot_list_append PySem.F.type_list_append mt_append (pv 2) (pa_cons (pe_callTy call_tupleN (by rfl) T.B.tuple bo_tuple (pa_cons (pe_callB cr_sortedH (by rfl) T.B.sorted bo_sorted (pa_cons (pe_op op_cat (pv 5) (pe_lst (pa_cons (pe_tup (pa_cons (pv 3) (pa_cons (pv 6) pa_nil))) pa_nil))) pa_nil)) pa_nil)) pa_nil)))))))))
  (pss_one (ps_ret (pe_callTy call_tuple_ofK (by rfl) T.B.tuple bo_tuple (pa_cons (pv 2) pa_nil)))))), ?_⟩
    repeat' (first
      | exact q
      | refine ⟨_, _, _, _, rfl, rfl, (by assumption), rfl, ?_⟩
      | refine ⟨_, _, _, _, true, rfl, .ty _, (by first | exact .base (.int _) | exact ty_tup (by assumption) | exact ty_lst (by assumption)), kit_ty (by decide +kernel), ?_⟩
      | refine ⟨_, _, _, _, false, rfl, .ty _, (by first | exact .base (.int _) | exact ty_tup (by assumption) | exact ty_lst (by assumption)), kit_ty (by decide +kernel), ?_⟩
      | refine ⟨_, _, rfl, .inr (by assumption), ?_⟩
      | refine ⟨_, _, rfl, .inl (by assumption), ?_⟩
      | refine ⟨_, _, rfl, (by assumption), rfl, ?_⟩
      | refine ⟨_, rfl, ?_⟩
      | refine ⟨_, _, rfl, rfl, ?_⟩
      | refine ⟨Nat.le_of_ble_eq_true rfl, fun p hp => ?_⟩
      | refine ⟨_, _, rfl, ?_⟩
      | refine ⟨rfl, ?_⟩
      | refine ⟨mul_ok4 (by assumption) (by assumption), ?_⟩
      | fail)
    revert p
    intro M hM
    have hMn : M ≠ pn := fun z => by obtain ⟨i, j, k, e⟩ := hpn; rw [← z, hM] at e; cases e
    have sM := same_new (o := .lst []) hM
    refine ⟨b, xs, rfl, Same.tt sM tb, for_it (walk_enumT (xs := xs)) (fun k σ H' => ∃ x3 x4 x5 x6 x7 x8, σ = [some (.ref pn), some (.ref b), some (.ref M), x3, x4, x5, x6, x7, x8] ∧ Kp [pn] H H' ∧ Pen H' pn ∧ ∃ ys rs, H' M = some (.lst ys) ∧ RowsP K H' ys rs ∧ rs.length = k ∧ ∀ (i : Nat) (r : List Part), rs[i]? = some r → SureRow n i r)
      ⟨none, none, none, none, none, none, rfl, sM.kp, hpn.mono sM, [], [], upd_same, ⟨rfl, fun i x r e => by simp at e⟩, rfl, fun i r e => by simp at e⟩ (fun k σ H' _ ⟨_, _, _, _, _, _, _, kk, _⟩ => kk.tt hpn.mob tb) ?_ ?_⟩
    · rintro k x σ H0 H2 hk ⟨x3, x4, x5, x6, x7, x8, rfl, k2, p2, ys, rs, eM, rps, lrs, sr⟩ ⟨T1, x0, y0, rfl, hT, rfl, ex, ey⟩
      cases ex
      have sT := same_new (o := .tup [.int (k : Nat), y0]) hT
      have ek := List.getElem?_eq_getElem (show k < rows.length by rw [← rp.1]; exact hk)
      generalize rows[k]'(by rw [← rp.1]; exact hk) = row at ek
      obtain ⟨T2, zs, rfl, pt, iz⟩ := rp.2 k y0 row ey ek
      have gr := ok.good.2.2 row (List.mem_of_getElem? ek)
      have nr := ok.num row (List.mem_of_getElem? ek)
      refine ⟨_, _, rfl, TT.of upd_same, rfl, _, _, rfl, _, _, rfl, rfl, ?_⟩
      have k3 := k2.trans sT.kp
      have p3 := p2.mono sT
      have eM3 := sT _ _ eM
      have rps3 := rps.mono sT.tup
      have t3 := k3.tup hpn.mob
      have tz := (pt.mono t3).tt (K := K)
      have iz3 := iz.mono t3
      generalize L2.upd H0 T1 (.tup [.int (k : Nat), .ref T2]) = H3 at k3 p3 eM3 rps3 tz iz3 ⊢
      have lz : zs.length = row.length := by rw [iz3.length, List.length_map]
      have lr := gr.len
      repeat' (first
      | exact q
      | refine ⟨_, _, _, _, rfl, rfl, (by assumption), rfl, ?_⟩
      | refine ⟨_, _, _, _, true, rfl, .ty _, (by first | exact .base (.int _) | exact ty_tup (by assumption) | exact ty_lst (by assumption)), kit_ty (by decide +kernel), ?_⟩
      | refine ⟨_, _, _, _, false, rfl, .ty _, (by first | exact .base (.int _) | exact ty_tup (by assumption) | exact ty_lst (by assumption)), kit_ty (by decide +kernel), ?_⟩
      | refine ⟨_, _, rfl, .inr (by assumption), ?_⟩
      | refine ⟨_, _, rfl, .inl (by assumption), ?_⟩
      | refine ⟨_, _, rfl, (by assumption), rfl, ?_⟩
      | refine ⟨_, rfl, ?_⟩
      | refine ⟨_, _, rfl, rfl, ?_⟩
      | refine ⟨Nat.le_of_ble_eq_true rfl, fun p hp => ?_⟩
      | refine ⟨_, _, rfl, ?_⟩
      | refine ⟨rfl, ?_⟩
      | refine ⟨mul_ok4 (by assumption) (by assumption), ?_⟩
      | fail)
      refine ⟨⟨_, tz⟩, fun D hD => lc_f (walk_tup (xs := zs)) (fun t => decide ((row.getD t default).1 ≠ k)) (PIm K fun t => partD ((row.getD t default).1, gq (row.getD t default).2)) PIm.m1 PIm.m2 hD (by omega) (fun H' s => Same.tt s tz) (fun t x H6 H5 Qy Qn ht s4 yy ky kn => ?_) (fun H4 hacc => ?_)⟩
      · obtain ⟨rfl, ey⟩ := yy
        obtain ⟨pt, ep, ip⟩ := imAll_at iz3 s4 ey
        obtain ⟨T1, z, rfl, tt, izn⟩ := part_inv ip
        obtain ⟨T2, rfl, tn0⟩ := id (num_inv izn)
        rw [getD_P ep] at ky kn
        refine ⟨_, _, rfl, tt, rfl, _, _, rfl, _, _, rfl, rfl, rfl, ?_⟩
        refine ⟨_, rfl, _, rfl, rfl, ?_⟩
        by_cases hz : pt.1 = k
        · rw [decide_eq_true (show V.int ((pt.1 : Nat) : Int) = V.int ((k : Nat) : Int) by rw [hz])]
          exact ⟨_, rfl, kn (by simp [hz]) _ (Same.refl _)⟩
        · rw [decide_eq_false (show ¬ V.int ((pt.1 : Nat) : Int) = V.int ((k : Nat) : Int) from int_ne (by omega))]
          have tn : SqT K H5 T2 [.int pt.2.num, .int (pt.2.den : Int)] := tn0
          refine ⟨_, rfl, _, rfl, ?_⟩
          repeat' (first
      | exact q
      | refine ⟨_, _, _, _, rfl, rfl, (by assumption), rfl, ?_⟩
      | refine ⟨_, _, _, _, true, rfl, .ty _, (by first | exact .base (.int _) | exact ty_tup (by assumption) | exact ty_lst (by assumption)), kit_ty (by decide +kernel), ?_⟩
      | refine ⟨_, _, _, _, false, rfl, .ty _, (by first | exact .base (.int _) | exact ty_tup (by assumption) | exact ty_lst (by assumption)), kit_ty (by decide +kernel), ?_⟩
      | refine ⟨_, _, rfl, .inr (by assumption), ?_⟩
      | refine ⟨_, _, rfl, .inl (by assumption), ?_⟩
      | refine ⟨_, _, rfl, (by assumption), rfl, ?_⟩
      | refine ⟨_, rfl, ?_⟩
      | refine ⟨_, _, rfl, rfl, ?_⟩
      | refine ⟨Nat.le_of_ble_eq_true rfl, fun p hp => ?_⟩
      | refine ⟨_, _, rfl, ?_⟩
      | refine ⟨rfl, ?_⟩
      | refine ⟨mul_ok4 (by assumption) (by assumption), ?_⟩
      | refine And.intro (.inl ⟨by omega, by omega⟩) ?_
      | refine And.intro (.inr ⟨by omega, by omega⟩) ?_
      | refine And.intro ⟨by omega, by omega⟩ ?_
      | refine And.intro ⟨by omega, by omega, by decide⟩ ?_
      | refine And.intro (by omega) ?_
      | fail)
          have gs := gq_s pt.2
          refine ⟨by omega, gq_sm pt.2, fun v H7 s7 i7 => ?_⟩
          refine ⟨Nat.le_of_ble_eq_true rfl, fun p hp => ky (by simp [hz]) _ _ (s7.trans (same_new hp)) ?_⟩
          show Im K _ (.ref p) (partD ((row.getD t default).1, gq (row.getD t default).2))
          rw [getD_P ep]
          exact .tup (.of upd_same) (.cons (.int _) (.cons (i7.mono (same_new hp).tup) .nil))
      · obtain ⟨ys1, s4, eD, iy⟩ := hacc.im
        rw [lz, filt_rangeP row (fun p => decide (p.1 ≠ k)) (fun p => partD (p.1, gq p.2)), show (fun p : Part => partD (p.1, gq p.2)) = partD ∘ fun p : Part => (p.1, gq p.2) from rfl, ← List.map_map] at iy
        generalize hb1 : List.map (fun p : Part => (p.1, gq p.2)) (List.filter (fun p => decide (p.1 ≠ k)) row) = b1 at iy
        have lb1 : ys1.length = b1.length := by rw [iy.length, List.length_map]
        have l12 : b1.length ≤ n := by
          rw [← hb1, List.length_map]
          exact Nat.le_trans (List.length_filter_le _ _) lr
        have hb1a : ∀ p ∈ b1, p.1 < n ∧ p.1 ≠ k ∧ ∃ x : Int, p.2 * ((6 : Int) : Rat) = (x : Rat) ∧ x.natAbs ≤ 24 := fun p hp => by
          rw [← hb1] at hp
          obtain ⟨p0, h0, rfl⟩ := List.mem_map.mp hp
          obtain ⟨h1, h2⟩ := List.mem_filter.mp h0
          exact ⟨(gr.good p0 h1).1, by simpa using h2, gq_six _⟩
        have hb1n : (plc b1).Nodup := by
          rw [← hb1]
          have : plc (List.map (fun p : Part => (p.1, gq p.2)) (List.filter (fun p => decide (p.1 ≠ k)) row)) = plc (List.filter (fun p => decide (p.1 ≠ k)) row) := by
            unfold plc; rw [List.map_map]; rfl
          rw [this]
          have h2 := gr.inc
          unfold plc
          rw [List.Nodup, List.pairwise_map]
          rw [List.pairwise_map] at h2
          exact (h2.filter _).imp fun h => Nat.ne_of_lt h
        have k4 := k3.trans s4.kp
        have p4 := p3.mono s4
        have eM4 := s4 _ _ eM3
        have rps4 := rps3.mono s4.tup
        repeat' (first
      | exact q
      | refine ⟨_, _, _, _, rfl, rfl, (by assumption), rfl, ?_⟩
      | refine ⟨_, _, _, _, true, rfl, .ty _, (by first | exact .base (.int _) | exact ty_tup (by assumption) | exact ty_lst (by assumption)), kit_ty (by decide +kernel), ?_⟩
      | refine ⟨_, _, _, _, false, rfl, .ty _, (by first | exact .base (.int _) | exact ty_tup (by assumption) | exact ty_lst (by assumption)), kit_ty (by decide +kernel), ?_⟩
      | refine ⟨_, _, rfl, .inr (by assumption), ?_⟩
      | refine ⟨_, _, rfl, .inl (by assumption), ?_⟩
      | refine ⟨_, _, rfl, (by assumption), rfl, ?_⟩
      | refine ⟨_, rfl, ?_⟩
      | refine ⟨_, _, rfl, rfl, ?_⟩
      | refine ⟨Nat.le_of_ble_eq_true rfl, fun p hp => ?_⟩
      | refine ⟨_, _, rfl, ?_⟩
      | refine ⟨rfl, ?_⟩
      | refine ⟨mul_ok4 (by assumption) (by assumption), ?_⟩
      | fail)
        refine ⟨⟨_, SqL.of eD⟩, fun D2 hD2 => lc_f (walk_list (xs := ys1)) (fun t => decide ((b1.getD t default).2 ≠ 0)) (PIm K fun t => partD (b1.getD t default)) PIm.m1 PIm.m2 hD2 (by omega) (fun H' s => SqL.of (s _ _ eD)) (fun t x H6 H5 Qy Qn ht s5 yy ky kn => ?_) (fun H5 hacc => ?_)⟩
        · obtain ⟨rfl, ey⟩ := yy
          obtain ⟨pt, ep, ip⟩ := imAll_at iy s5 ey
          obtain ⟨T1, z, rfl, tt, iz⟩ := part_inv ip
          obtain ⟨T2, rfl, tz⟩ := id (num_inv iz)
          rw [getD_P ep] at ky kn
          refine ⟨_, _, rfl, tt, rfl, _, _, rfl, _, _, rfl, rfl, rfl, ?_⟩
          refine ⟨_, rfl, _, _, _, _, rfl, rfl, tz, rfl, rfl, ?_⟩
          by_cases hz : pt.2 = 0
          · rw [decide_eq_true (show V.int pt.2.num = V.int 0 by rw [hz]; rfl)]
            exact ⟨_, rfl, kn (by simp [hz]) _ (Same.refl _)⟩
          · rw [decide_eq_false (show ¬ V.int pt.2.num = V.int 0 from fun z => hz (Rat.num_eq_zero.mp (V.int.inj z)))]
            refine ⟨_, rfl, _, rfl, _, rfl, Nat.le_of_ble_eq_true rfl, fun p hp => ky (by simp [hz]) _ _ (same_new hp) ?_⟩
            show Im K _ (.ref p) (partD (b1.getD t default))
            rw [getD_P ep]
            exact .tup (.of upd_same) (.cons (.int _) (.cons (iz.mono (same_new hp).tup) .nil))
        · obtain ⟨ys2, s5, eD2, iy2⟩ := hacc.im
          rw [lb1, filt_rangeP b1 (fun p => decide (p.2 ≠ 0)) partD] at iy2
          have hb2a : ∀ p ∈ b1.filter (fun p => decide (p.2 ≠ 0)), p.1 < n ∧ p.1 ≠ k ∧ p.2 ≠ 0 ∧ ∃ x : Int, p.2 * ((6 : Int) : Rat) = (x : Rat) ∧ x.natAbs ≤ 24 := fun p hp => by
            obtain ⟨h1, h2⟩ := List.mem_filter.mp hp
            obtain ⟨q1, q2, q3⟩ := hb1a p h1
            exact ⟨q1, q2, by simpa using h2, q3⟩
          have hb2n : (plc (b1.filter fun p => decide (p.2 ≠ 0))).Nodup := by
            unfold plc at hb1n ⊢
            rw [List.Nodup, List.pairwise_map] at hb1n ⊢
            exact hb1n.filter _
          have l2 : (b1.filter fun p => decide (p.2 ≠ 0)).length ≤ n := Nat.le_trans (List.length_filter_le _ _) l12
          generalize b1.filter (fun p => decide (p.2 ≠ 0)) = b2 at iy2 hb2a hb2n l2
          have lys2 : ys2.length = b2.length := by rw [iy2.length, List.length_map]
          have k5 := k4.trans s5.kp
          have p5 := p4.mono s5
          have eM5 := s5 _ _ eM4
          have rps5 := rps4.mono s5.tup
          have hDn : D2 ≠ pn := fun z => by obtain ⟨i, j, k, e⟩ := p4; rw [← z, hD2] at e; cases e
          repeat' (first
      | exact q
      | refine ⟨_, _, _, _, rfl, rfl, (by assumption), rfl, ?_⟩
      | refine ⟨_, _, _, _, true, rfl, .ty _, (by first | exact .base (.int _) | exact ty_tup (by assumption) | exact ty_lst (by assumption)), kit_ty (by decide +kernel), ?_⟩
      | refine ⟨_, _, _, _, false, rfl, .ty _, (by first | exact .base (.int _) | exact ty_tup (by assumption) | exact ty_lst (by assumption)), kit_ty (by decide +kernel), ?_⟩
      | refine ⟨_, _, rfl, .inr (by assumption), ?_⟩
      | refine ⟨_, _, rfl, .inl (by assumption), ?_⟩
      | refine ⟨_, _, rfl, (by assumption), rfl, ?_⟩
      | refine ⟨_, rfl, ?_⟩
      | refine ⟨_, _, rfl, rfl, ?_⟩
      | refine ⟨Nat.le_of_ble_eq_true rfl, fun p hp => ?_⟩
      | refine ⟨_, _, rfl, ?_⟩
      | refine ⟨rfl, ?_⟩
      | refine ⟨mul_ok4 (by assumption) (by assumption), ?_⟩
      | fail)
          refine ⟨p5, by omega, by omega, ?_⟩
          rintro _ H6 k6 p6 ⟨d0, rfl, d1, d2⟩
          have eM6 := k6 M _ (by simpa using hMn) eM5
          have eD6 := k6 D2 _ (by simpa using hDn) eD2
          have rps6 := rps5.mono (k6.tup p5.mob)
          have iy6 := iy2.mono (k6.tup p5.mob)
          have k56 := k5.trans k6
          repeat' (first
      | exact q
      | refine ⟨_, _, _, _, rfl, rfl, (by assumption), rfl, ?_⟩
      | refine ⟨_, _, _, _, true, rfl, .ty _, (by first | exact .base (.int _) | exact ty_tup (by assumption) | exact ty_lst (by assumption)), kit_ty (by decide +kernel), ?_⟩
      | refine ⟨_, _, _, _, false, rfl, .ty _, (by first | exact .base (.int _) | exact ty_tup (by assumption) | exact ty_lst (by assumption)), kit_ty (by decide +kernel), ?_⟩
      | refine ⟨_, _, rfl, .inr (by assumption), ?_⟩
      | refine ⟨_, _, rfl, .inl (by assumption), ?_⟩
      | refine ⟨_, _, rfl, (by assumption), rfl, ?_⟩
      | refine ⟨_, rfl, ?_⟩
      | refine ⟨_, _, rfl, rfl, ?_⟩
      | refine ⟨Nat.le_of_ble_eq_true rfl, fun p hp => ?_⟩
      | refine ⟨_, _, rfl, ?_⟩
      | refine ⟨rfl, ?_⟩
      | refine ⟨mul_ok4 (by assumption) (by assumption), ?_⟩
      | fail)
          have s7 := same_new (o := .tup [V.int (1 + d0), .int 1]) hp
          have iw0 : Im K (L2.upd H6 p (.tup [V.int (1 + d0), .int 1])) (.ref p) (numD (((1 + d0 : Int) : Rat))) := .tup (.of upd_same) (.cons (.int _) (.cons (.int _) .nil))
          have eM7 := s7 _ _ eM6
          have eD7 := s7 _ _ eD6
          have rps7 := rps6.mono s7.tup
          have iy7 := iy6.mono s7.tup
          have k7 := k56.trans s7.kp
          have p7 := p6.mono s7
          generalize hH7 : L2.upd H6 p (.tup [V.int (1 + d0), .int 1]) = H7 at s7 iw0 eM7 eD7 rps7 iy7 k7 p7
          have hd0 : (1 : Int) ≤ 1 + d0 ∧ 1 + d0 ≤ 3 := by omega
          generalize (1 + d0 : Int) = dd at hd0 iw0 hH7
          have six : ∀ (l : List Part), (∀ p ∈ l, p ∈ b2) → l.length ≤ 12 → Sm ((dd : Rat) + asum l) := fun l hl h12 => by
            obtain ⟨x, e, hx⟩ := asum_six (r := l) fun p hp => (hb2a p (hl p hp)).2.2.2
            refine sm_six (x := dd * 6 + x) ?_ (by omega)
            rw [Rat.intCast_add, Rat.intCast_mul, ← e]; grind
          refine ⟨⟨_, SqL.of eD7⟩, for_it (walk_list (xs := ys2)) (fun t σ H' => ∃ w x7 x8, σ = [some (.ref pn), some (.ref b), some (.ref M), some (.int (k : Nat)), some (.ref T2), some (.ref D2), some w, x7, x8] ∧ Same H7 H' ∧ Im K H' w (numD ((dd : Rat) + asum (b2.take t))))
            ⟨_, _, _, rfl, Same.refl _, by show Im K H7 _ (numD ((dd : Rat) + 0)); rw [Rat.add_zero]; exact iw0⟩ (fun t σ H' _ ⟨_, _, _, _, s', _⟩ => SqL.of (s' _ _ eD7)) ?_ ?_⟩
          · rintro t x σ H9 H8 ht ⟨w, x7, x8, rfl, s8, iw⟩ ⟨rfl, ey⟩
            obtain ⟨pt, ep, ip⟩ := imAll_at iy7 s8 ey
            obtain ⟨T3, z, rfl, tt, iz⟩ := part_inv ip
            obtain ⟨T4, rfl, tz0⟩ := id (num_inv iz)
            have tz : SqT K H8 T4 [.int pt.2.num, .int (pt.2.den : Int)] := tz0
            obtain ⟨_, _, _, x, e6, hx⟩ := hb2a pt (List.mem_of_getElem? ep)
            refine ⟨_, _, rfl, tt, rfl, _, _, rfl, _, _, rfl, rfl, ?_⟩
            repeat' (first
      | exact q
      | refine ⟨_, _, _, _, rfl, rfl, (by assumption), rfl, ?_⟩
      | refine ⟨_, _, _, _, true, rfl, .ty _, (by first | exact .base (.int _) | exact ty_tup (by assumption) | exact ty_lst (by assumption)), kit_ty (by decide +kernel), ?_⟩
      | refine ⟨_, _, _, _, false, rfl, .ty _, (by first | exact .base (.int _) | exact ty_tup (by assumption) | exact ty_lst (by assumption)), kit_ty (by decide +kernel), ?_⟩
      | refine ⟨_, _, rfl, .inr (by assumption), ?_⟩
      | refine ⟨_, _, rfl, .inl (by assumption), ?_⟩
      | refine ⟨_, _, rfl, (by assumption), rfl, ?_⟩
      | refine ⟨_, rfl, ?_⟩
      | refine ⟨_, _, rfl, rfl, ?_⟩
      | refine ⟨Nat.le_of_ble_eq_true rfl, fun p hp => ?_⟩
      | refine ⟨_, _, rfl, ?_⟩
      | refine ⟨rfl, ?_⟩
      | refine ⟨mul_ok4 (by assumption) (by assumption), ?_⟩
      | fail)
            have s9 := same_new (o := .tup [.int (if pt.2.num < 0 then -pt.2.num else pt.2.num), .int (pt.2.den : Int)]) hp
            have iab : Im K (L2.upd H8 p (.tup [.int (if pt.2.num < 0 then -pt.2.num else pt.2.num), .int (pt.2.den : Int)])) (.ref p) (numD (ab pt.2)) := by
              have := ab_parts pt.2
              unfold numD
              rw [this.1, this.2]
              exact .tup (.of upd_same) (.cons (.int _) (.cons (.int _) .nil))
            have et : (dd : Rat) + asum (b2.take (t + 1)) = (dd : Rat) + asum (b2.take t) + ab pt.2 := by
              rw [List.take_succ, ep]
              show (dd : Rat) + asum (b2.take t ++ [pt]) = _
              rw [asum_snoc]; grind
            have l12 : ∀ t, (b2.take t).length ≤ 12 := fun t => by rw [List.length_take]; omega
            have sm3 : Sm ((dd : Rat) + asum (b2.take t) + ab pt.2) := by rw [← et]; exact six _ (fun p hp => List.mem_of_mem_take hp) (l12 _)
            refine ⟨_, _, (dd : Rat) + asum (b2.take t), ab pt.2, rfl, iw.mono s9.tup, iab, six _ (fun p hp => List.mem_of_mem_take hp) (l12 _), sm_six (ab_six e6) (by omega), True.intro, sm3, fun v H9 s10 i9 => ?_⟩
            exact ⟨_, _, _, rfl, s8.trans (s9.trans s10), by rw [et]; exact i9⟩
          · rintro σ H8 ⟨w, x7, x8, rfl, s8, iw⟩
            rw [List.take_of_length_le (by omega)] at iw
            have eM8 := s8 _ _ eM7
            have eD8 := s8 _ _ eD7
            have rps8 := rps7.mono s8.tup
            have iy8 := iy7.mono s8.tup
            have k8 := k7.trans s8.kp
            have p8 := p7.mono s8
            clear hp
            refine ⟨_, rfl, .inl ⟨rfl, _, SqL.of eM8⟩, ?_⟩
            repeat' (first
      | exact q
      | refine ⟨_, _, _, _, rfl, rfl, (by assumption), rfl, ?_⟩
      | refine ⟨_, _, _, _, true, rfl, .ty _, (by first | exact .base (.int _) | exact ty_tup (by assumption) | exact ty_lst (by assumption)), kit_ty (by decide +kernel), ?_⟩
      | refine ⟨_, _, _, _, false, rfl, .ty _, (by first | exact .base (.int _) | exact ty_tup (by assumption) | exact ty_lst (by assumption)), kit_ty (by decide +kernel), ?_⟩
      | refine ⟨_, _, rfl, .inr (by assumption), ?_⟩
      | refine ⟨_, _, rfl, .inl (by assumption), ?_⟩
      | refine ⟨_, _, rfl, (by assumption), rfl, ?_⟩
      | refine ⟨_, rfl, ?_⟩
      | refine ⟨_, _, rfl, rfl, ?_⟩
      | refine ⟨Nat.le_of_ble_eq_true rfl, fun p hp => ?_⟩
      | refine ⟨_, _, rfl, ?_⟩
      | refine ⟨rfl, ?_⟩
      | refine ⟨mul_ok4 (by assumption) (by assumption), ?_⟩
      | fail)
            rename_i p0 hp0
            have hkn : k < n := by rw [← lx]; exact hk
            have s9 := same_new (o := .tup [.int (k : Nat), w]) hp0
            have s10 := same_new (o := .lst [.ref p0]) hp
            have ip0 : Im K (L2.upd H8 p0 (.tup [.int (k : Nat), w])) (.ref p0) (partD (k, (dd : Rat) + asum b2)) := .tup (.of upd_same) (.cons (.int _) (.cons (iw.mono s9.tup) .nil))
            refine ⟨D2, p, ys2, [.ref p0], rfl, rfl, s10 _ _ (s9 _ _ eD8), upd_same, Nat.le_trans (show ys2.length + [V.ref p0].length ≤ 200 by simp; omega) (by decide), fun p2 hp2 => ?_⟩
            have s11 := same_new (o := .lst (ys2 ++ [.ref p0])) hp2
            have iall : ImAll K (L2.upd (L2.upd (L2.upd H8 p0 (.tup [.int (k : Nat), w])) p (.lst [.ref p0])) p2 (.lst (ys2 ++ [.ref p0]))) (ys2 ++ [.ref p0]) ((b2 ++ [(k, (dd : Rat) + asum b2)]).map partD) := by
              rw [List.map_append]
              exact (iy8.mono (s9.trans (s10.trans s11)).tup).append (.one (ip0.mono (s10.trans s11).tup))
            have e11 := upd_same (H := L2.upd (L2.upd H8 p0 (.tup [.int (k : Nat), w])) p (.lst [.ref p0])) (a := p2) (o := .lst (ys2 ++ [.ref p0]))
            have s811 := s9.trans (s10.trans s11)
            generalize L2.upd (L2.upd (L2.upd H8 p0 (.tup [.int (k : Nat), w])) p (.lst [.ref p0])) p2 (.lst (ys2 ++ [.ref p0])) = H11 at iall e11 s811 ⊢
            refine ⟨Part, p2, _, b2 ++ [(k, (dd : Rat) + asum b2)], fun p => (p.1 : Int), partD, rfl, SqL.of e11, iall, fun p _ => ⟨_, rfl⟩, ?_, fun ys3 p3 l3 perm inc im hp3 => ?_⟩
            · have : (plc (b2 ++ [(k, (dd : Rat) + asum b2)])).Nodup := by
                unfold plc at hb2n ⊢
                rw [List.map_append, List.nodup_append]
                refine ⟨hb2n, by simp, fun a ha b hb => ?_⟩
                obtain ⟨pp, hpp, rfl⟩ := List.mem_map.mp ha
                simp at hb
                rw [hb]
                exact (hb2a pp hpp).2.1
              unfold plc at this
              rw [List.Nodup, List.pairwise_map] at this ⊢
              exact this.imp fun h e => h (by exact_mod_cast e)
            have s12 := same_new (o := .lst ys3) hp3
            refine ⟨_, _, rfl, SqL.of upd_same, fun l ob hob hl => ?_⟩
            have s13 := same_new (o := .frz ob (.tup ys3)) hl
            have sA := s811.trans (s12.trans s13)
            have eM9 := sA _ _ eM8
            have k9 := k8.trans sA.kp
            have p9 := p8.mono sA
            have rps9 := rps8.mono sA.tup
            have im9 := im.mono (s12.trans s13).tup
            have pl : PlainT (L2.upd (L2.upd H11 p3 (.lst ys3)) l (.frz ob (.tup ys3))) l ys3 := ⟨ob, hob, upd_same⟩
            generalize L2.upd (L2.upd H11 p3 (.lst ys3)) l (.frz ob (.tup ys3)) = H12 at eM9 k9 p9 rps9 im9 pl ⊢
            have tm : Tup H12 (L2.upd H12 M (.lst (ys ++ [.ref l]))) := .lst eM9
            have hW : (dd : Rat) + asum b2 ≠ 0 := fun z => by
              have h1 := asum_nn b2
              have h2 : ((1 : Int) : Rat) ≤ (dd : Rat) := Rat.intCast_le_intCast.mpr hd0.1
              have h3 : ((1 : Int) : Rat) = 1 := rfl
              rw [h3] at h2
              grind
            have gl3 : GoodRow n l3 := ⟨by
              rw [List.pairwise_map]
              exact inc.imp fun {a b} h => by
                have h' : ((a.1 : Nat) : Int) < ((b.1 : Nat) : Int) := h
                omega, fun p hp => by
              rcases List.mem_append.mp (perm.mem_iff.mp hp) with h | h
              · exact ⟨(hb2a p h).1, (hb2a p h).2.2.1⟩
              · rw [List.mem_singleton.mp h]; exact ⟨hkn, hW⟩⟩
            refine ⟨_, _, _, rfl, rfl, eM9, small1000 (by rw [rps9.1]; omega), ?_⟩
            refine ⟨_, _, _, _, _, _, rfl, k9.mut hM, ?_, ys ++ [.ref l], rs ++ [l3], upd_same, ⟨by simp [rps9.1], fun i x r' e1 e2 => ?_⟩, by simp [lrs], fun i r' e2 => ?_⟩
            · obtain ⟨i, j, l', e⟩ := p9
              exact ⟨i, j, l', by rw [upd_ne (Ne.symm hMn)]; exact e⟩
            · have rp5 := rps9.mono tm
              by_cases hi : i < ys.length
              · rw [List.getElem?_append_left hi] at e1
                rw [List.getElem?_append_left (by rw [← rps9.1]; exact hi)] at e2
                exact rp5.2 i x r' e1 e2
              · have hl' := rps9.1
                have : i = ys.length := by
                  have := (List.getElem?_eq_some_iff.mp e1).1
                  simp at this
                  omega
                subst this
                rw [List.getElem?_append_right (Nat.le_refl _)] at e1
                rw [hl', List.getElem?_append_right (Nat.le_refl _)] at e2
                simp at e1 e2
                subst e1 e2
                exact ⟨l, ys3, rfl, pl.mono tm, im9.mono tm⟩
            · by_cases hi : i < rs.length
              · rw [List.getElem?_append_left hi] at e2
                exact sr i r' e2
              · have : i = rs.length := by
                  have := (List.getElem?_eq_some_iff.mp e2).1
                  simp at this
                  omega
                subst this
                rw [List.getElem?_append_right (Nat.le_refl _)] at e2
                simp at e2
                subst e2
                rw [lrs]
                exact ⟨gl3, b2, dd, hd0.1, hd0.2, perm, hb2n, hb2a⟩
    · rintro σ H2 ⟨x3, x4, x5, x6, x7, x8, rfl, k2, p2, ys, rs, eM, rps, lrs, sr⟩
      refine ⟨_, rfl, M, ys, rfl, .inl ⟨SqL.of eM, fun l hl => ?_⟩⟩
      have sl := same_new (o := .tup ys) hl
      exact q l _ ys rs (k2.trans sl.kp) (p2.mono sl) (.of upd_same) (rps.mono sl.tup) (by rw [lrs, lx]) sr
end
end FW
end

/-! ## W17 -/
section
set_option Elab.async false
set_option linter.all false
set_option maxRecDepth 100000
set_option maxHeartbeats 4000000
namespace FW
open PySem PySem.Spec PyProof.Rows L2 FF
section
variable {P : Program} {w : World} {K : PySem.W.Frag} {mg : Str → Option Value} {base : Heap}
/-! ### two values of one datum -/
theorem Tw.up : ∀ {k : Nat} {H : Hp} {a b : V}, Tw K k H a b → Tw K (k + 1) H a b
  | 0, _, _, _, h => h.elim
  | k + 1, H, a, b, h => by
    rcases h with h | ⟨p, q, xs, ys, e1, e2, h, l1, l2, z⟩
    · exact .inl h
    · exact .inr ⟨p, q, xs, ys, e1, e2, h, l1, l2, fun i x y ex ey => (z i x y ex ey).up⟩
/-- of one datum -/
def OneD (K : PySem.W.Frag) (k : Nat) (d : PyData) : Prop := ∀ (H : Hp) (a b : V), Im K H a d → Im K H b d → Tw K k H a b
theorem OneD.up {k : Nat} {d : PyData} (h : OneD K k d) : OneD K (k + 1) d := fun H a b x y => (h H a b x y).up
theorem OneD.int (i : Int) : OneD K 1 (.int i) := fun H a b x y => .inl ⟨i, x.int_inv, y.int_inv⟩
theorem OneD.tup {k : Nat} {ds : List PyData} (h : ∀ d ∈ ds, OneD K k d) (hl : ds.length ≤ 1000) : OneD K (k + 1) (.tuple ds) := fun H a b x y => by
  obtain ⟨p, xs, rfl, tp, ix⟩ := x.tup_inv
  obtain ⟨q, ys, rfl, tq, iy⟩ := y.tup_inv
  refine .inr ⟨p, q, xs, ys, rfl, rfl, .inr ⟨tp, tq⟩, by rw [ix.length, iy.length], by rw [ix.length]; exact hl, fun i x y ex ey => ?_⟩
  obtain ⟨d, ed, idx⟩ := ix.got ex
  obtain ⟨d', ed', idy⟩ := iy.got ey
  rw [ed] at ed'
  cases ed'
  exact h d (List.mem_of_getElem? ed) H x y idx idy
theorem one_num (q : Rat) : OneD K 2 (numD q) := .tup (fun d hd => by
  simp at hd
  rcases hd with rfl | rfl <;> exact .int _) (by simp)
theorem one_part (p : Part) : OneD K 3 (partD p) := .tup (fun d hd => by
  simp at hd
  rcases hd with rfl | rfl
  · exact (OneD.int _).up
  · exact one_num _) (by simp)
theorem one_row {r : List Part} (h : r.length ≤ 1000) : OneD K 4 (rowD r) := .tup (fun d hd => by
  obtain ⟨p, _, rfl⟩ := List.mem_map.mp hd
  exact one_part p) (by rw [List.length_map]; exact h)
theorem one_sheet {n : Nat} {rows : List (List Part)} (gr : GoodRows n rows) : OneD K 6 (sheetD n rows) := .tup (fun d hd => by
  simp at hd
  rcases hd with rfl | rfl
  · exact (OneD.int _).up.up.up.up
  · refine .tup (fun d hd => ?_) (by rw [List.length_map, gr.1]; have := gr.2.1; omega)
    obtain ⟨r, hr, rfl⟩ := List.mem_map.mp hd
    exact one_row (by have := (gr.2.2 r hr).len; have := gr.2.1; omega)) (by simp)
theorem one_w1 {x : W1} (h1 : x.2.2.1.length ≤ 1000) (h2 : x.2.2.2.length ≤ 1000) : OneD K 5 (w1D x) := .tup (fun d hd => by
  simp at hd
  rcases hd with rfl | rfl | rfl | rfl
  · exact (OneD.int _).up.up.up
  · exact (one_num _).up.up
  · exact one_row h1
  · exact one_row h2) (by simp)
theorem two_lists {k : Nat} {H : Hp} {p q : Addr} {xs ys : List V} {ds : List PyData} (hp : SqL K H p xs) (hq : SqL K H q ys) (ix : ImAll K H xs ds) (iy : ImAll K H ys ds) (hd : ∀ d ∈ ds, OneD K k d) (hl : ds.length ≤ 1000) : Tw K (k + 1) H (.ref p) (.ref q) := by
  refine .inr ⟨p, q, xs, ys, rfl, rfl, .inl ⟨hp, hq⟩, by rw [ix.length, iy.length], by rw [ix.length]; exact hl, fun i x y ex ey => ?_⟩
  obtain ⟨d, ed, idx⟩ := ix.got ex
  obtain ⟨d', ed', idy⟩ := iy.got ey
  rw [ed] at ed'
  cases ed'
  exact hd d (List.mem_of_getElem? ed) H x y idx idy
/-! ### the order's promise -/
structure OrdOk (n : Nat) (rows : List (List Part)) (o : List Nat) : Prop where
  good : GoodRows n rows
  n7 : n ≤ 7
  perm : o.Perm (List.range n)
  piv : Piv (matOf rows) o
  wrk : WorkOk (work n (matOf rows) o) o
  put : PutOk n (work n (matOf rows) o)
  run : ∀ o' : List Nat, o'.Perm (List.range n) → SmRun (matOf rows) o'
theorem OrdOk.nd {n : Nat} {rows : List (List Part)} {o : List Nat} (h : OrdOk n rows o) : o.Nodup := h.perm.nodup_iff.mpr List.nodup_range
theorem OrdOk.lt {n : Nat} {rows : List (List Part)} {o : List Nat} (h : OrdOk n rows o) : ∀ j ∈ o, j < n := fun j hj => List.mem_range.mp (h.perm.mem_iff.mp hj)
theorem OrdOk.len {n : Nat} {rows : List (List Part)} {o : List Nat} (h : OrdOk n rows o) : o.length = n := by rw [h.perm.length_eq, List.length_range]
theorem OrdOk.sum {n : Nat} {rows : List (List Part)} {o : List Nat} (h : OrdOk n rows o) : ∀ i < n, ∀ j < n, (FF.work n (matOf rows) o).foldl addW (fun _ _ => 0) i j = matOf rows i j := fun i hi j hj => by
  rw [all_work h.nd h.lt h.piv, if_pos ⟨h.perm.mem_iff.mpr (List.mem_range.mpr hi), h.perm.mem_iff.mpr (List.mem_range.mpr hj)⟩]
theorem mat_web {n : Nat} {rows : List (List Part)} (gr : GoodRows n rows) {ts : List (Nat × Nat)} (ht : ∀ i j, Tie ts i j ↔ i ≠ j ∧ i < n ∧ j < n ∧ (matOf rows i j ≠ 0 ∨ matOf rows j i ≠ 0)) : Web (Tie ts) (matOf rows) := by
  refine ⟨fun a b h => h.symm, fun i j hne hz => (ht i j).mpr ?_⟩
  have hi : i < n := by
    rcases Nat.lt_or_ge i n with h | h
    · exact h
    · exfalso
      apply hz
      unfold matOf
      rw [List.getD_eq_getElem?_getD, List.getElem?_eq_none (by rw [gr.1]; exact h)]
      rfl
  exact ⟨hne, hi, mat_lt gr hi hz, .inl hz⟩
theorem OrdOk.kept {n : Nat} {rows : List (List Part)} {o o' : List Nat} {ts : List (Nat × Nat)} {par : Nat → Option Nat} (h : OrdOk n rows o) (ht : ∀ i j, Tie ts i j ↔ i ≠ j ∧ i < n ∧ j < n ∧ (matOf rows i j ≠ 0 ∨ matOf rows j i ≠ 0))
    (tr : Tree (Tie ts) o par) (pl : ∀ v p, par v = some p → p < n) (k : Keep n par o') (hl : o'.length = n) : Piv (matOf rows) o' ∧ (FF.work n (matOf rows) o').Perm (FF.work n (matOf rows) o) ∧ (FF.work n (matOf rows) o').map (·.1) = o' ∧ o'.Perm (List.range n) := by
  have pf := k.full hl
  obtain ⟨a, b⟩ := work_kept (mat_web h.good ht) h.nd (pf.trans h.perm.symm) h.piv tr fun v p hv e => (k.up v p (h.lt v hv) e (pf.mem_iff.mpr (List.mem_range.mpr (pl v p e)))).2
  refine ⟨a, ?_, ?_, pf⟩
  · rw [b, work_tup h.nd]
    exact (pf.trans h.perm.symm).map _
  · rw [b, List.map_map]
    show o'.map (fun v => v) = o'
    exact List.map_id' o'
def sp_law_order_right (K : PySem.W.Frag) : Sp := fun vs H Q _ => ∃ (p a b : Addr) (v : V) (n : Nat) (rows : List (List Part)) (o : List Nat) (ys : List V), vs = [.ref p, v, .ref a, .ref b] ∧ Pen H p ∧ SheetV K H v n rows ∧ NatL K H a o ∧ SqL K H b ys ∧ a ≠ p ∧ b ≠ p ∧ ImAll K H ys ((work n (matOf rows) o).map w1D) ∧ OrdOk n rows o ∧
  RetP p H Q fun v _ => v = .bl true
abbrev s_law_order_right : Stmt := topS 62
theorem sc_law_order_right : FnScope ["_law_pen_here", "_law_sheet", "_law_order_here", "_law_work", "_law_kept", "_law_other", "_law_one"] ["_law_pen_here", "_law_sheet", "_law_order_here", "_law_work"] (defScope s_law_order_right) := ⟨rfl, rfl, rfl, by decide +kernel, rfl, by decide +kernel, by decide +kernel⟩
theorem fn_law_order_right (T : Tops K mg) : Fn P w K mg base CX0 11 "_law_order_right" ["_law_pen_here", "_law_sheet", "_law_order_here", "_law_work"] (sp_law_order_right K) := by
  have h_law_keeping : Fn P w K mg base CX0 10 "_law_keeping" _ _ := (fn_law_keeping T).mono (by decide)
  have h_law_struck : Fn P w K mg base CX0 10 "_law_struck" _ _ := (fn_law_struck T).mono (by decide)
  have h_law_same : Fn P w K mg base CX0 10 "_law_same" _ _ := (fn_law_same T 6).mono (by decide)
  have h_law_above : Fn P w K mg base CX0 10 "_law_above" _ _ := (fn_law_above T).mono (by decide)
  have h_put_back : Fn P w K mg base CX0 10 "put_back" _ _ := (fn_put_back T).mono (by decide)
  have h_law_is_work : Fn P w K mg base CX0 10 "_law_is_work" _ _ := (fn_law_is_work T).mono (by decide)
  have h_law_multiplied : Fn P w K mg base CX0 10 "_law_multiplied" _ _ := (fn_law_multiplied T).mono (by decide)
  have h_law_ties_of : Fn P w K mg base CX0 10 "_law_ties_of" _ _ := (fn_law_ties_of T).mono (by decide)
  refine T.d_law_order_right.fn sc_law_order_right (fun _ _ _ _ _ _ us hl => match us, hl with | [_, _, _, _], _ => rfl) (fun vs H Q E h => ?_) (fun f cdv A outer s H vs Q E hr h => ?_)
  · obtain ⟨p, a, b, v, n, rows, o, ys, rfl, _⟩ := h; rfl
  · obtain ⟨pn, a, b, v, n, rows, o, ys, rfl, hpn, sv, la, lb, hap, hbp, iys, ok, q⟩ := h
    obtain ⟨sa, sb, xs, rfl, ta, tb, rp⟩ := id sv
    refine ⟨_, (pss_cons (ps_if (PW.pt (pw_or (pt_not (pt_val (pe_fn h_law_is_work hr pass0 (pa_cons (pv 3) (pa_cons (pv 2) pa_nil))))) (pw_or1 (pt_cmpR (op_neDK hr.units) (pe_fn h_law_multiplied hr pass0 (pa_cons (pe_ix ix_tupK (pv 1) pe_int (fun _ _ => rfl)) (pa_cons (pv 3) pa_nil))) (pv 1) (nomark _)))))
  (pss_one (ps_ret pe_bl))
  pss_nil)
  (pss_cons (ps_set (i := 4) sc_law_order_right.nd rfl (.inl rfl) (pe_fn h_law_keeping hr pass0 (pa_cons (pv 0) (pa_cons (pe_fn h_law_above hr pass0 (pa_cons (pe_fn h_law_ties_of hr pass0 (pa_cons (pv 1) pa_nil)) (pa_cons (pv 2) pa_nil))) pa_nil))))
  (pss_cons (ps_set (i := 5) sc_law_order_right.nd rfl (.inl rfl) (pe_fn h_law_struck hr pass0 (pa_cons (pv 1) (pa_cons (pv 4) pa_nil))))
  (pss_cons (ps_if (PW.pt (pw_or (pt_cmpR op_isN (pv 5) pe_non (nomark _)) (pw_or (pt_not (pt_val (pe_fn h_law_same hr pass0 (pa_cons (pe_callB cr_sortedH (by rfl) T.B.sorted bo_sorted (pa_cons (pv 5) pa_nil)) (pa_cons (pe_callB cr_sortedH (by rfl) T.B.sorted bo_sorted (pa_cons (pv 3) pa_nil)) pa_nil))))) (pw_or1 (pt_cmpR (op_neDK hr.units) (pe_lc (own := [("_law_one", 6)]) (g := gName 6) (tt := tYes) rfl sc_law_order_right.nd (pi_list (pv 5)) (blkOk_by (N := ["_law_pen_here", "_law_sheet", "_law_order_here", "_law_work", "_law_kept", "_law_other", "_law_one"]) (sc := defScope s_law_order_right) (by decide +kernel)) (fun _ _ _ _ _ => (pg_name (i := 6) sc_law_order_right.nd rfl (.inl rfl))) (fun _ _ _ _ _ => pts_nil) (fun _ _ _ _ _ => (pe_ix ix_tupK (pv 6) pe_int (fun _ _ => rfl)))) (pv 4) (nomark _))))))
  (pss_one (ps_ret pe_bl))
  pss_nil)
  (pss_one (ps_ret (pe_fn h_law_same hr pass0 (pa_cons (pe_fn h_put_back hr pass0 (pa_cons (pe_ix ix_tupK (pv 1) pe_int (fun _ _ => rfl)) (pa_cons (pv 3) pa_nil))) (pa_cons (pv 1) pa_nil))))))))), ?_⟩
    have iv := sv.im
    have lb0 : SqL K H b ys := lb
    have hs := ok.sum
    have lw : (work n (matOf rows) o).length = n := by rw [work_length, ok.len]
    repeat' (first
      | exact q
      | refine ⟨_, _, _, _, rfl, rfl, (by assumption), rfl, ?_⟩
      | refine ⟨_, _, _, _, true, rfl, .ty _, (by first | exact .base (.int _) | exact ty_tup (by assumption) | exact ty_lst (by assumption)), kit_ty (by decide +kernel), ?_⟩
      | refine ⟨_, _, _, _, false, rfl, .ty _, (by first | exact .base (.int _) | exact ty_tup (by assumption) | exact ty_lst (by assumption)), kit_ty (by decide +kernel), ?_⟩
      | refine ⟨_, _, rfl, .inr (by assumption), ?_⟩
      | refine ⟨_, _, rfl, .inl (by assumption), ?_⟩
      | refine ⟨_, _, rfl, (by assumption), rfl, ?_⟩
      | refine ⟨_, rfl, ?_⟩
      | refine ⟨_, _, rfl, rfl, ?_⟩
      | refine ⟨Nat.le_of_ble_eq_true rfl, fun p hp => ?_⟩
      | refine ⟨_, _, rfl, ?_⟩
      | refine ⟨rfl, ?_⟩
      | refine ⟨mul_ok4 (by assumption) (by assumption), ?_⟩
      | fail)
    refine ⟨b, a, ys, _, o, rfl, lb, iys, la, ok.wrk, fun H1 s1 => ?_⟩
    repeat' (first
      | exact q
      | refine ⟨_, _, _, _, rfl, rfl, (by assumption), rfl, ?_⟩
      | refine ⟨_, _, _, _, true, rfl, .ty _, (by first | exact .base (.int _) | exact ty_tup (by assumption) | exact ty_lst (by assumption)), kit_ty (by decide +kernel), ?_⟩
      | refine ⟨_, _, _, _, false, rfl, .ty _, (by first | exact .base (.int _) | exact ty_tup (by assumption) | exact ty_lst (by assumption)), kit_ty (by decide +kernel), ?_⟩
      | refine ⟨_, _, rfl, .inr (by assumption), ?_⟩
      | refine ⟨_, _, rfl, .inl (by assumption), ?_⟩
      | refine ⟨_, _, rfl, (by assumption), rfl, ?_⟩
      | refine ⟨_, rfl, ?_⟩
      | refine ⟨_, _, rfl, rfl, ?_⟩
      | refine ⟨Nat.le_of_ble_eq_true rfl, fun p hp => ?_⟩
      | refine ⟨_, _, rfl, ?_⟩
      | refine ⟨rfl, ?_⟩
      | refine ⟨mul_ok4 (by assumption) (by assumption), ?_⟩
      | fail)
    refine ⟨_, _, _, _, rfl, rfl, Same.tt s1 ta, rfl, ?_⟩
    repeat' (first
      | exact q
      | refine ⟨_, _, _, _, rfl, rfl, (by assumption), rfl, ?_⟩
      | refine ⟨_, _, _, _, true, rfl, .ty _, (by first | exact .base (.int _) | exact ty_tup (by assumption) | exact ty_lst (by assumption)), kit_ty (by decide +kernel), ?_⟩
      | refine ⟨_, _, _, _, false, rfl, .ty _, (by first | exact .base (.int _) | exact ty_tup (by assumption) | exact ty_lst (by assumption)), kit_ty (by decide +kernel), ?_⟩
      | refine ⟨_, _, rfl, .inr (by assumption), ?_⟩
      | refine ⟨_, _, rfl, .inl (by assumption), ?_⟩
      | refine ⟨_, _, rfl, (by assumption), rfl, ?_⟩
      | refine ⟨_, rfl, ?_⟩
      | refine ⟨_, _, rfl, rfl, ?_⟩
      | refine ⟨Nat.le_of_ble_eq_true rfl, fun p hp => ?_⟩
      | refine ⟨_, _, rfl, ?_⟩
      | refine ⟨rfl, ?_⟩
      | refine ⟨mul_ok4 (by assumption) (by assumption), ?_⟩
      | fail)
    refine ⟨b, n, ys, _, rows, rfl, s1.seq lb, iys.mono s1.tup, by rw [lw]; have := ok.n7; omega, ok.good, ok.put, hs, fun v2 H2 s2 i2 => ?_⟩
    have s12 := s1.trans s2
    repeat' (first
      | exact q
      | refine ⟨_, _, _, _, rfl, rfl, (by assumption), rfl, ?_⟩
      | refine ⟨_, _, _, _, true, rfl, .ty _, (by first | exact .base (.int _) | exact ty_tup (by assumption) | exact ty_lst (by assumption)), kit_ty (by decide +kernel), ?_⟩
      | refine ⟨_, _, _, _, false, rfl, .ty _, (by first | exact .base (.int _) | exact ty_tup (by assumption) | exact ty_lst (by assumption)), kit_ty (by decide +kernel), ?_⟩
      | refine ⟨_, _, rfl, .inr (by assumption), ?_⟩
      | refine ⟨_, _, rfl, .inl (by assumption), ?_⟩
      | refine ⟨_, _, rfl, (by assumption), rfl, ?_⟩
      | refine ⟨_, rfl, ?_⟩
      | refine ⟨_, _, rfl, rfl, ?_⟩
      | refine ⟨Nat.le_of_ble_eq_true rfl, fun p hp => ?_⟩
      | refine ⟨_, _, rfl, ?_⟩
      | refine ⟨rfl, ?_⟩
      | refine ⟨mul_ok4 (by assumption) (by assumption), ?_⟩
      | fail)
    refine rd_ne i2 (iv.mono s12.tup) (shp_sheet _ _) (by decide) ?_
    repeat' (first
      | exact q
      | refine ⟨_, _, _, _, rfl, rfl, (by assumption), rfl, ?_⟩
      | refine ⟨_, _, _, _, true, rfl, .ty _, (by first | exact .base (.int _) | exact ty_tup (by assumption) | exact ty_lst (by assumption)), kit_ty (by decide +kernel), ?_⟩
      | refine ⟨_, _, _, _, false, rfl, .ty _, (by first | exact .base (.int _) | exact ty_tup (by assumption) | exact ty_lst (by assumption)), kit_ty (by decide +kernel), ?_⟩
      | refine ⟨_, _, rfl, .inr (by assumption), ?_⟩
      | refine ⟨_, _, rfl, .inl (by assumption), ?_⟩
      | refine ⟨_, _, rfl, (by assumption), rfl, ?_⟩
      | refine ⟨_, rfl, ?_⟩
      | refine ⟨_, _, rfl, rfl, ?_⟩
      | refine ⟨Nat.le_of_ble_eq_true rfl, fun p hp => ?_⟩
      | refine ⟨_, _, rfl, ?_⟩
      | refine ⟨rfl, ?_⟩
      | refine ⟨mul_ok4 (by assumption) (by assumption), ?_⟩
      | fail)
    refine ⟨n, _, rows, rfl, iv.mono s12.tup, ok.good, ok.n7, fun p1 xs1 H3 ts s3 hp1 e1 it tk lts htie => ?_⟩
    have s13 := s12.trans s3
    repeat' (first
      | exact q
      | refine ⟨_, _, _, _, rfl, rfl, (by assumption), rfl, ?_⟩
      | refine ⟨_, _, _, _, true, rfl, .ty _, (by first | exact .base (.int _) | exact ty_tup (by assumption) | exact ty_lst (by assumption)), kit_ty (by decide +kernel), ?_⟩
      | refine ⟨_, _, _, _, false, rfl, .ty _, (by first | exact .base (.int _) | exact ty_tup (by assumption) | exact ty_lst (by assumption)), kit_ty (by decide +kernel), ?_⟩
      | refine ⟨_, _, rfl, .inr (by assumption), ?_⟩
      | refine ⟨_, _, rfl, .inl (by assumption), ?_⟩
      | refine ⟨_, _, rfl, (by assumption), rfl, ?_⟩
      | refine ⟨_, rfl, ?_⟩
      | refine ⟨_, _, rfl, rfl, ?_⟩
      | refine ⟨Nat.le_of_ble_eq_true rfl, fun p hp => ?_⟩
      | refine ⟨_, _, rfl, ?_⟩
      | refine ⟨rfl, ?_⟩
      | refine ⟨mul_ok4 (by assumption) (by assumption), ?_⟩
      | fail)
    refine ⟨p1, a, xs1, n, ts, o, rfl, SqL.of e1, it, lts, tk, by have := ok.n7; omega, s13.seq la, ok.len, ok.nd, ok.lt, fun p2 H4 par s4 hp2 e2 isp pz pl => ?_⟩
    have s14 := s13.trans s4
    have tr := IsPar.tree ok.nd isp pz
    have p2n : p2 ≠ pn := fun z => by obtain ⟨i, j, k, e⟩ := hpn.mono s13; rw [← z, hp2] at e; cases e
    refine ⟨pn, p2, n, ts, o, par, rfl, hpn.mono s14, SqL.of e2, p2n, by have := ok.n7; omega, tr, ok.nd, ok.perm, fun F H5 o' k5 p5 hF eF keep lo => ?_⟩
    obtain ⟨piv', wperm, wmap, pf⟩ := ok.kept htie tr pl keep lo
    have k15 : Kp [pn] H H5 := s14.kp.trans k5
    have t15 := k15.tup hpn.mob
    have hFn : F ≠ pn := fun z => by obtain ⟨i, j, k, e⟩ := hpn.mono s14; rw [← z, hF] at e; cases e
    have lo' : o'.Nodup := pf.nodup_iff.mpr List.nodup_range
    repeat' (first
      | exact q
      | refine ⟨_, _, _, _, rfl, rfl, (by assumption), rfl, ?_⟩
      | refine ⟨_, _, _, _, true, rfl, .ty _, (by first | exact .base (.int _) | exact ty_tup (by assumption) | exact ty_lst (by assumption)), kit_ty (by decide +kernel), ?_⟩
      | refine ⟨_, _, _, _, false, rfl, .ty _, (by first | exact .base (.int _) | exact ty_tup (by assumption) | exact ty_lst (by assumption)), kit_ty (by decide +kernel), ?_⟩
      | refine ⟨_, _, rfl, .inr (by assumption), ?_⟩
      | refine ⟨_, _, rfl, .inl (by assumption), ?_⟩
      | refine ⟨_, _, rfl, (by assumption), rfl, ?_⟩
      | refine ⟨_, rfl, ?_⟩
      | refine ⟨_, _, rfl, rfl, ?_⟩
      | refine ⟨Nat.le_of_ble_eq_true rfl, fun p hp => ?_⟩
      | refine ⟨_, _, rfl, ?_⟩
      | refine ⟨rfl, ?_⟩
      | refine ⟨mul_ok4 (by assumption) (by assumption), ?_⟩
      | fail)
    refine ⟨_, F, n, rows, o', rfl, sv.mono t15, SqL.of eF, ok.good, ok.n7, lo, lo', fun j hj => List.mem_range.mp (pf.mem_iff.mp hj), ok.run o' pf, fun np => absurd piv' np, fun _ => ?_⟩
    intro p6 zs H6 s6 hp6 e6 iz
    have t16 := t15.trans s6.tup
    have lb6 : SqL K H6 b ys := s6.seq (sqL_kp lb k15 hbp)
    have lz : zs.length = n := by rw [iz.length, List.length_map, work_length, lo]
    have n7 := ok.n7
    have rowl : ∀ x ∈ work n (matOf rows) o, x.2.2.1.length ≤ 1000 ∧ x.2.2.2.length ≤ 1000 := fun x hx => by
      obtain ⟨c1, c2⟩ := ok.put.cl x hx
      obtain ⟨j1, j2⟩ := ok.put.jl x hx
      have h1 := nodup_le c1 (fun j hj => by obtain ⟨p, hp, rfl⟩ := List.mem_map.mp hj; exact c2 p hp)
      have h2 := nodup_le j1 (fun j hj => by obtain ⟨p, hp, rfl⟩ := List.mem_map.mp hj; exact j2 p hp)
      unfold plc clW at h1
      unfold plc jlW at h2
      simp at h1 h2
      omega
    have nd1 : ((work n (matOf rows) o').map fun x : W1 => (x.1 : Int)).Nodup := by
      have : ((work n (matOf rows) o').map fun x : W1 => (x.1 : Int)) = o'.map fun j : Nat => (j : Int) := by
        have := congrArg (List.map fun j : Nat => (j : Int)) wmap
        rw [List.map_map] at this
        exact this
      rw [this, List.Nodup, List.pairwise_map]
      exact lo'.imp fun h e => h (by exact_mod_cast e)
    have nd2 : ((work n (matOf rows) o).map fun x : W1 => (x.1 : Int)).Nodup := (wperm.map _).nodup_iff.mp nd1
    repeat' (first
      | exact q
      | refine ⟨_, _, _, _, rfl, rfl, (by assumption), rfl, ?_⟩
      | refine ⟨_, _, _, _, true, rfl, .ty _, (by first | exact .base (.int _) | exact ty_tup (by assumption) | exact ty_lst (by assumption)), kit_ty (by decide +kernel), ?_⟩
      | refine ⟨_, _, _, _, false, rfl, .ty _, (by first | exact .base (.int _) | exact ty_tup (by assumption) | exact ty_lst (by assumption)), kit_ty (by decide +kernel), ?_⟩
      | refine ⟨_, _, rfl, .inr (by assumption), ?_⟩
      | refine ⟨_, _, rfl, .inl (by assumption), ?_⟩
      | refine ⟨_, _, rfl, (by assumption), rfl, ?_⟩
      | refine ⟨_, rfl, ?_⟩
      | refine ⟨_, _, rfl, rfl, ?_⟩
      | refine ⟨Nat.le_of_ble_eq_true rfl, fun p hp => ?_⟩
      | refine ⟨_, _, rfl, ?_⟩
      | refine ⟨rfl, ?_⟩
      | refine ⟨mul_ok4 (by assumption) (by assumption), ?_⟩
      | fail)
    refine ⟨W1, p6, zs, work n (matOf rows) o', fun x => (x.1 : Int), w1D, rfl, SqL.of e6, iz, fun x _ => ⟨_, rfl⟩, nd1, fun ys3 p7 l3 perm3 inc3 im3 hp7 => ?_⟩
    have s7 := same_new (o := .lst ys3) hp7
    repeat' (first
      | exact q
      | refine ⟨_, _, _, _, rfl, rfl, (by assumption), rfl, ?_⟩
      | refine ⟨_, _, _, _, true, rfl, .ty _, (by first | exact .base (.int _) | exact ty_tup (by assumption) | exact ty_lst (by assumption)), kit_ty (by decide +kernel), ?_⟩
      | refine ⟨_, _, _, _, false, rfl, .ty _, (by first | exact .base (.int _) | exact ty_tup (by assumption) | exact ty_lst (by assumption)), kit_ty (by decide +kernel), ?_⟩
      | refine ⟨_, _, rfl, .inr (by assumption), ?_⟩
      | refine ⟨_, _, rfl, .inl (by assumption), ?_⟩
      | refine ⟨_, _, rfl, (by assumption), rfl, ?_⟩
      | refine ⟨_, rfl, ?_⟩
      | refine ⟨_, _, rfl, rfl, ?_⟩
      | refine ⟨Nat.le_of_ble_eq_true rfl, fun p hp => ?_⟩
      | refine ⟨_, _, rfl, ?_⟩
      | refine ⟨rfl, ?_⟩
      | refine ⟨mul_ok4 (by assumption) (by assumption), ?_⟩
      | fail)
    refine ⟨W1, b, ys, work n (matOf rows) o, fun x => (x.1 : Int), w1D, rfl, s7.seq lb6, iys.mono (t16.trans s7.tup), fun x _ => ⟨_, rfl⟩, nd2, fun ys4 p8 l4 perm4 inc4 im4 hp8 => ?_⟩
    have s8 := same_new (o := .lst ys4) hp8
    have el : l3 = l4 := (perm3.trans (wperm.trans perm4.symm)).eq_of_pairwise (le := fun x y => (x.1 : Int) < (y.1 : Int)) (fun a b _ _ h1 h2 => absurd h1 (by omega)) inc3 inc4
    subst el
    have tw : Tw K 6 (L2.upd (L2.upd H6 p7 (.lst ys3)) p8 (.lst ys4)) (.ref p7) (.ref p8) := two_lists (SqL.of (s8 _ _ upd_same)) (SqL.of upd_same) (im3.mono (s7.trans s8).tup) (im4.mono s8.tup) (fun d hd => by
      obtain ⟨x, hx, rfl⟩ := List.mem_map.mp hd
      have := rowl x (perm4.mem_iff.mp hx)
      exact one_w1 this.1 this.2) (by rw [List.length_map, perm4.length_eq, lw]; omega)
    refine ⟨_, _, rfl, tw, fun H9 s9 => ?_⟩
    have s69 : Same H6 H9 := s7.trans (s8.trans s9)
    repeat' (first
      | exact q
      | refine ⟨_, _, _, _, rfl, rfl, (by assumption), rfl, ?_⟩
      | refine ⟨_, _, _, _, true, rfl, .ty _, (by first | exact .base (.int _) | exact ty_tup (by assumption) | exact ty_lst (by assumption)), kit_ty (by decide +kernel), ?_⟩
      | refine ⟨_, _, _, _, false, rfl, .ty _, (by first | exact .base (.int _) | exact ty_tup (by assumption) | exact ty_lst (by assumption)), kit_ty (by decide +kernel), ?_⟩
      | refine ⟨_, _, rfl, .inr (by assumption), ?_⟩
      | refine ⟨_, _, rfl, .inl (by assumption), ?_⟩
      | refine ⟨_, _, rfl, (by assumption), rfl, ?_⟩
      | refine ⟨_, rfl, ?_⟩
      | refine ⟨_, _, rfl, rfl, ?_⟩
      | refine ⟨Nat.le_of_ble_eq_true rfl, fun p hp => ?_⟩
      | refine ⟨_, _, rfl, ?_⟩
      | refine ⟨rfl, ?_⟩
      | refine ⟨mul_ok4 (by assumption) (by assumption), ?_⟩
      | fail)
    have e9 := s69 _ _ e6
    refine ⟨⟨_, SqL.of e9⟩, fun D hD => lc_a (walk_list (xs := zs)) (PVl fun i => V.int ((o'.getD i 0 : Nat) : Int)) PVl.m1 PVl.m2 hD (by omega) (fun H' s => SqL.of (s _ _ e9)) (fun i x H10 H11 Qy hi sA yy k => ?_) (fun H10 hacc => ?_)⟩
    · obtain ⟨rfl, ex⟩ := yy
      obtain ⟨wk, ewk, iw⟩ := imAll_at iz (s69.trans sA) ex
      obtain ⟨T1, pv, r, c, rfl, tt, _⟩ := w1_inv iw
      refine ⟨rfl, _, rfl, _, _, _, _, rfl, rfl, tt, rfl, k _ _ (Same.refl _) ?_⟩
      show V.int _ = V.int ((o'.getD i 0 : Nat) : Int)
      have : o'[i]? = some wk.1 := by rw [← wmap, List.getElem?_map, ewk]; rfl
      rw [List.getD_eq_getElem?_getD, this]
      rfl
    · obtain ⟨sA, eD⟩ := hacc.vl
      have sB := s69.trans sA
      rw [show zs.length = o'.length by rw [lz, lo], show (List.range o'.length).map (fun i => V.int ((o'.getD i 0 : Nat) : Int)) = (o'.map fun j : Nat => (j : Int)).map V.int by
        rw [List.map_map]
        conv => rhs; rw [← range_getD o']
        rw [List.map_map]; rfl] at eD
      have eF9 : H10 F = some (.lst ((o'.map fun j : Nat => (j : Int)).map V.int)) := by rw [int_list]; exact sB _ _ (s6 _ _ eF)
      refine ⟨_, rfl, _, _, .lst (SqL.of eD) (dp_ints _), .lst (SqL.of eF9) (dp_ints _), (shp_ints _).shaped (by decide), (shp_ints _).shaped (by decide), ?_⟩
      rw [eqv_ints]
      have tB := t16.trans sB.tup
      have ta9 : SqT K H10 sa [.int n, .ref sb] := TT.mono tB ta
      have lb9 : SqL K H10 b ys := sB.seq lb6
      repeat' (first
      | exact q
      | refine ⟨_, _, _, _, rfl, rfl, (by assumption), rfl, ?_⟩
      | refine ⟨_, _, _, _, true, rfl, .ty _, (by first | exact .base (.int _) | exact ty_tup (by assumption) | exact ty_lst (by assumption)), kit_ty (by decide +kernel), ?_⟩
      | refine ⟨_, _, _, _, false, rfl, .ty _, (by first | exact .base (.int _) | exact ty_tup (by assumption) | exact ty_lst (by assumption)), kit_ty (by decide +kernel), ?_⟩
      | refine ⟨_, _, rfl, .inr (by assumption), ?_⟩
      | refine ⟨_, _, rfl, .inl (by assumption), ?_⟩
      | refine ⟨_, _, rfl, (by assumption), rfl, ?_⟩
      | refine ⟨_, rfl, ?_⟩
      | refine ⟨_, _, rfl, rfl, ?_⟩
      | refine ⟨Nat.le_of_ble_eq_true rfl, fun p hp => ?_⟩
      | refine ⟨_, _, rfl, ?_⟩
      | refine ⟨rfl, ?_⟩
      | refine ⟨mul_ok4 (by assumption) (by assumption), ?_⟩
      | fail)
      refine ⟨b, n, ys, _, rows, rfl, lb9, iys.mono (t16.trans sB.tup), by rw [lw]; omega, ok.good, ok.put, hs, fun v2 H11 s11 i11 => ?_⟩
      refine ⟨_, rfl, _, _, rfl, one_sheet ok.good H11 v2 (.ref sa) i11 (iv.mono (t16.trans (sB.trans s11).tup)), fun H12 s12 => q _ H12 ((k15.trans s6.kp).trans (sB.trans (s11.trans s12)).kp) (p5.mono (s6.trans (sB.trans (s11.trans s12)))) rfl⟩
end
end FW
end

/-! ## W18 -/
section
set_option Elab.async false
set_option linter.all false
set_option maxRecDepth 100000
set_option maxHeartbeats 4000000
namespace FW
open PySem PySem.Spec PyProof.Rows L2 FF
/-- all that the sheet's turn asks of the numbers -/
structure SheetOk (n : Nat) (rows : List (List Part)) (F : Nat → Rat) : Prop where
  good : GoodRows n rows
  run : ∀ o : List Nat, o.Perm (List.range n) → SmRun (matOf rows) o
  ord : ∀ o : List Nat, o.Perm (List.range n) → Piv (matOf rows) o → OrdOk n rows o ∧ SolOk n F (work n (matOf rows) o) ∧
    (∀ j < n, solW F (work n (matOf rows) o) j = sol (matOf rows) F o j) ∧ ∀ (i : Nat) (r : List Part), rows[i]? = some r → ComesOk (sol (matOf rows) F o) r (F i) n
def SureAll : Prop := ∀ (n : Nat) (rows : List (List Part)) (F : Nat → Rat), n ≤ 6 → rows.length = n → (∀ (i : Nat) (r : List Part), rows[i]? = some r → SureRow n i r) → (∀ i < n, NumOk (F i)) → SheetOk n rows F ∧ ∀ o : List Nat, o.Perm (List.range n) → Piv (matOf rows) o
def AnyAll : Prop := ∀ (n : Nat) (rows : List (List Part)) (F : Nat → Rat), n ≤ 4 → RowsOk n rows → (∀ i < n, NumOk (F i)) → SheetOk n rows F
section
variable {P : Program} {w : World} {K : PySem.W.Frag} {mg : Str → Option Value} {base : Heap}
theorem fl_ne {H : Hp} {p X : Addr} {n : Nat} {F : Nat → Rat} (hp : Pen H p) (h : H X = none) : X ≠ p := fun z => by
  obtain ⟨i, j, k, e⟩ := hp
  rw [← z, h] at e; cases e
theorem FL.kp {H H' : Hp} {p X : Addr} {n : Nat} {F : Nat → Rat} (h : FL K H X n F) (k : Kp [p] H H') (hp : Pen H p) (hne : X ≠ p) : FL K H' X n F := by
  obtain ⟨xs, e, l, z⟩ := h
  exact ⟨xs, k X _ (by simpa using hne) e, l, fun i x ex => (z i x ex).mono (k.tup hp.mob)⟩
theorem FL.imAll {H : Hp} {X : Addr} {n : Nat} {F : Nat → Rat} (h : FL K H X n F) : ∃ xs, H X = some (.lst xs) ∧ xs.length = n ∧ ImAll K H xs ((List.range n).map fun i => numD (F i)) := by
  obtain ⟨xs, e, l, z⟩ := h
  refine ⟨xs, e, l, imAll_get (by rw [List.length_map, List.length_range, l]) fun j y d e1 e2 => ?_⟩
  rw [List.getElem?_map] at e2
  obtain ⟨i, ei, rfl⟩ := Option.map_eq_some_iff.mp e2
  obtain ⟨_, e3⟩ := List.getElem?_eq_some_iff.mp ei
  rw [List.getElem_range] at e3
  rw [← e3]
  exact z j y e1
theorem tw_fl {H : Hp} {X Y : Addr} {n : Nat} {F G : Nat → Rat} (h : FL K H X n F) (g : FL K H Y n G) (e : ∀ j < n, G j = F j) (hn : n ≤ 1000) : Tw K 3 H (.ref X) (.ref Y) := by
  obtain ⟨xs, e1, _, i1⟩ := h.imAll
  obtain ⟨ys, e2, _, i2⟩ := (g.congr e).imAll
  refine two_lists (SqL.of e1) (SqL.of e2) i1 i2 (fun d hd => ?_) (by rw [List.length_map, List.length_range]; exact hn)
  obtain ⟨i, _, rfl⟩ := List.mem_map.mp hd
  exact one_num _
def sp_law_right (K : PySem.W.Frag) : Sp := fun vs H Q _ => ∃ p : Addr, vs = [.ref p] ∧ Pen H p ∧ RetP p H Q fun v _ => v = .bl true
abbrev s_law_right : Stmt := topS 63
theorem sc_law_right : FnScope ["_law_pen_here", "_law_n", "_law_sure", "_law_rows_here", "_law_sheet", "_law_right_here", "_law_i", "_law_x", "_law_turn", "_law_order_here", "_law_work", "_law_told"] ["_law_pen_here"] (defScope s_law_right) := ⟨rfl, rfl, rfl, by decide +kernel, rfl, by decide +kernel, by decide +kernel⟩
theorem fn_law_right (T : Tops K mg) (hS : SureAll) (hA : AnyAll) : Fn P w K mg base CX0 12 "_law_right" ["_law_pen_here"] (sp_law_right K) := by
  have h_law_draw : Fn P w K mg base CX0 11 "_law_draw" _ _ := (fn_law_draw T).mono (by decide)
  have h_law_rows : Fn P w K mg base CX0 11 "_law_rows" _ _ := (fn_law_rows T).mono (by decide)
  have h_law_above_all : Fn P w K mg base CX0 11 "_law_above_all" _ _ := (fn_law_above_all T).mono (by decide)
  have h_law_number : Fn P w K mg base CX0 11 "_law_number" _ _ := (fn_law_number T).mono (by decide)
  have h_law_order : Fn P w K mg base CX0 11 "_law_order" _ _ := (fn_law_order T).mono (by decide)
  have h_law_struck : Fn P w K mg base CX0 11 "_law_struck" _ _ := (fn_law_struck T).mono (by decide)
  have h_law_order_right : Fn P w K mg base CX0 11 "_law_order_right" _ _ := (fn_law_order_right T).mono (by decide)
  have h_solved : Fn P w K mg base CX0 11 "solved" _ _ := (fn_solved T).mono (by decide)
  have h_law_same : Fn P w K mg base CX0 11 "_law_same" _ _ := (fn_law_same T 3).mono (by decide)
  have h_law_comes : Fn P w K mg base CX0 11 "_law_comes" _ _ := (fn_law_comes T).mono (by decide)
  refine T.d_law_right.fn sc_law_right (fun _ _ _ _ _ _ us hl => match us, hl with | [_], _ => rfl) (fun vs H Q E h => ?_) (fun f cdv A outer s H vs Q E hr h => ?_)
  · obtain ⟨p, rfl, _⟩ := h; rfl
  · obtain ⟨pn, rfl, hpn, q⟩ := h
    have tail : ∃ t, PSs (cxOf CX0 P w K mg base ["_law_pen_here", "_law_n", "_law_sure", "_law_rows_here", "_law_sheet", "_law_right_here", "_law_i", "_law_x", "_law_turn", "_law_order_here", "_law_work", "_law_told"] "_law_right" (defScope s_law_right) f cdv A outer s H E).nox ((defBody s_law_right).drop 6) t ∧
        ∀ (n : Nat) (b : Bool) (rows : List (List Part)) (x3 : Option V) (v : V) (H3 : Hp), n ≤ 6 → Kp [pn] H H3 → Pen H3 pn → SheetV K H3 v n rows → (∀ F : Nat → Rat, (∀ i < n, NumOk (F i)) → SheetOk n rows F ∧ (b = true → ∀ o : List Nat, o.Perm (List.range n) → Piv (matOf rows) o)) →
          t { nx := fun _ H' => Q .non H', rt := Q } [some (.ref pn), some (.int n), some (.bl b), x3, some v, none, none, none, none, none, none, none] H3 := by
      refine ⟨_, (pss_cons (ps_setLc (i := 5) (own := [("_law_i", 6)]) (g := gName 6) (tt := tYes) rfl sc_law_right.nd rfl rfl (sw_true rfl rfl rfl (by decide +kernel)) (pi_range1 (by rfl) T.B.range (pa_cons (pv 1) pa_nil)) (blkOk_by (N := ["_law_pen_here", "_law_n", "_law_sure", "_law_rows_here", "_law_sheet", "_law_right_here", "_law_i", "_law_x", "_law_turn", "_law_order_here", "_law_work", "_law_told"]) (sc := defScope s_law_right) (by decide +kernel)) (fun _ _ _ _ _ => (pg_name (i := 6) sc_law_right.nd rfl (.inl rfl))) (fun _ _ _ _ _ => pts_nil) (fun _ _ _ _ _ => (pe_fn h_law_number hr pass0 (pa_cons (pv 0) pa_nil))))
  (pss_cons (ps_set (i := 7) sc_law_right.nd rfl (.inl rfl) pe_non)
  (pss_cons (ps_for PassesOwn.never rfl (pi_range1 (by rfl) T.B.range (pa_cons pe_int pa_nil)) (pg_name (i := 8) sc_law_right.nd rfl (.inl rfl))
  (pss_cons (ps_set (i := 9) sc_law_right.nd rfl (.inl rfl) (pe_fn h_law_order hr pass0 (pa_cons (pv 0) (pa_cons (pv 1) pa_nil))))
  (pss_cons (ps_set (i := 10) sc_law_right.nd rfl (.inl rfl) (pe_fn h_law_struck hr pass0 (pa_cons (pv 4) (pa_cons (pv 9) pa_nil))))
  (pss_cons (ps_if (PW.pt (pw_and (pt_cmpR op_isN (pv 10) pe_non (nomark _)) (pw_and1 (pt_val (pv 2)))))
  (pss_one (ps_ret pe_bl))
  pss_nil)
  (pss_one (ps_if (pt_cmpR op_notN (pv 10) pe_non (nomark _))
  (pss_cons (ps_if (pt_not (pt_val (pe_fn h_law_order_right hr pass0 (pa_cons (pv 0) (pa_cons (pv 4) (pa_cons (pv 9) (pa_cons (pv 10) pa_nil)))))))
  (pss_one (ps_ret pe_bl))
  pss_nil)
  (pss_cons (ps_set (i := 11) sc_law_right.nd rfl (.inl rfl) (pe_fn h_solved hr pass0 (pa_cons (pv 1) (pa_cons (pv 10) (pa_cons (pe_callTy call_list_ofK (by rfl) T.B.list bo_list (pa_cons (pv 5) pa_nil)) pa_nil)))))
  (pss_cons (ps_if (PW.pt (pw_and (pt_cmpR op_notN (pv 7) pe_non (nomark _)) (pw_and1 (pt_not (pt_val (pe_fn h_law_same hr pass0 (pa_cons (pv 11) (pa_cons (pv 7) pa_nil))))))))
  (pss_one (ps_ret pe_bl))
  pss_nil)
  (pss_one (ps_set (i := 7) sc_law_right.nd rfl (.inl rfl) (pv 11))))))
  pss_nil))))))
  (pss_one (ps_ret (pe_or (pe_cmpR op_isN (pv 7) pe_non (nomark _)) (pe_one (pe_and (pe_callB call_isiK1 (by rfl) T.B.isinstance bo_isinstance (pa_cons (pv 7) (pa_cons (pe_bltn (v := .ty "list") (by rfl) T.B.list bo_list rfl) pa_nil))) (pe_and (pe_cmpR op_eq (pe_callB call_len_seqK (by rfl) T.B.len bo_len (pa_cons (pv 7) pa_nil)) (pv 1) (nomark _)) (pe_one (pe_fn h_law_comes hr pass0 (pa_cons (pv 4) (pa_cons (pv 7) (pa_cons (pv 5) pa_nil)))))))))))))), ?_⟩
      intro n b rows x3 v H3 n6 k3 p3 sv hC
      repeat' (first
      | exact q
      | refine ⟨_, _, _, _, rfl, rfl, (by assumption), rfl, ?_⟩
      | refine ⟨_, _, _, _, true, rfl, .ty _, (by first | exact .base (.int _) | exact ty_tup (by assumption) | exact ty_lst (by assumption)), kit_ty (by decide +kernel), ?_⟩
      | refine ⟨_, _, _, _, false, rfl, .ty _, (by first | exact .base (.int _) | exact ty_tup (by assumption) | exact ty_lst (by assumption)), kit_ty (by decide +kernel), ?_⟩
      | refine ⟨_, _, rfl, .inr (by assumption), ?_⟩
      | refine ⟨_, _, rfl, .inl (by assumption), ?_⟩
      | refine ⟨_, _, rfl, (by assumption), rfl, ?_⟩
      | refine ⟨_, rfl, ?_⟩
      | refine ⟨_, _, rfl, rfl, ?_⟩
      | refine ⟨Nat.le_of_ble_eq_true rfl, fun p hp => ?_⟩
      | refine ⟨_, _, rfl, ?_⟩
      | refine ⟨rfl, ?_⟩
      | refine ⟨mul_ok4 (by assumption) (by assumption), ?_⟩
      | fail)
      refine ⟨by omega, by omega, fun D hD => lc_it walk_range (fun i H' => Kp [pn] H3 H' ∧ Pen H' pn ∧ ∃ (xs : List V) (qs : List Rat), H' D = some (.lst xs) ∧ ImAll K H' xs (qs.map numD) ∧ qs.length = i ∧ ∀ q ∈ qs, NumOk q) ?_ (fun _ _ _ _ => True.intro) (fun j x H0 H4 hj h4 yy => ?_) (fun H4 h4 => ?_)⟩
      · have sD := same_new (o := .lst []) hD
        exact ⟨sD.kp, p3.mono sD, [], [], upd_same, .nil, rfl, by simp⟩
      · obtain ⟨k4, p4, xs, qs, eD, ix, lq, nq⟩ := h4
        obtain ⟨rfl, rfl⟩ := yy
        have hDn : D ≠ pn := fun z => by obtain ⟨i, j, k, e⟩ := p3; rw [← z, hD] at e; cases e
        refine ⟨rfl, _, rfl, pn, rfl, p4, ?_⟩
        rintro u H5 k5 p5 ⟨qv, hq, iv⟩
        have eD5 := k5 D _ (by simpa using hDn) eD
        have ix5 := ix.mono (k5.tup p4.mob)
        have tm : Tup H5 (L2.upd H5 D (.lst (xs ++ [u]))) := .lst eD5
        refine ⟨xs, eD5, small1000 (by rw [ix5.length, List.length_map, lq]; simp at hj; omega), (k4.trans k5).mut hD, ?_, xs ++ [u], qs ++ [qv], upd_same, ?_, by simp [lq], fun q' hq' => ?_⟩
        · obtain ⟨i, j, l, e⟩ := p5
          exact ⟨i, j, l, by rw [upd_ne (Ne.symm hDn)]; exact e⟩
        · rw [List.map_append]
          exact (ix5.mono tm).append (.one (iv.mono tm))
        · rcases List.mem_append.mp hq' with h | h
          · exact nq q' h
          · rw [List.mem_singleton.mp h]; exact hq
      · obtain ⟨k4, p4, xs, qs, eD, ix, lq, nq⟩ := h4
        have hDn : D ≠ pn := fun z => by obtain ⟨i, j, k, e⟩ := p3; rw [← z, hD] at e; cases e
        have lq : qs.length = n := by simpa using lq
        have lx : xs.length = n := by rw [ix.length, List.length_map, lq]
        obtain ⟨F, hF⟩ : ∃ F : Nat → Rat, F = fun i => qs.getD i 0 := ⟨_, rfl⟩
        obtain ⟨so, hpv⟩ := hC F (fun i hi => by
          rw [hF]
          show NumOk (qs.getD i 0)
          have e := List.getElem?_eq_getElem (show i < qs.length by rw [lq]; exact hi)
          rw [List.getD_eq_getElem?_getD, e]
          exact nq _ (List.getElem_mem _))
        have irs : ∀ (i : Nat) (x : V), xs[i]? = some x → Im K H4 x (numD (F i)) := fun i x ex => by
          rw [hF]
          show Im K H4 x (numD (qs.getD i 0))
          obtain ⟨d, ed, idd⟩ := ix.got ex
          rw [List.getElem?_map] at ed
          obtain ⟨q', eq', rfl⟩ := Option.map_eq_some_iff.mp ed
          rw [List.getD_eq_getElem?_getD, eq']
          exact idd
        have t34 := k4.tup p3.mob
        have sv4 := sv.mono t34
        have k04 := k3.trans k4
        repeat' (first
      | exact q
      | refine ⟨_, _, _, _, rfl, rfl, (by assumption), rfl, ?_⟩
      | refine ⟨_, _, _, _, true, rfl, .ty _, (by first | exact .base (.int _) | exact ty_tup (by assumption) | exact ty_lst (by assumption)), kit_ty (by decide +kernel), ?_⟩
      | refine ⟨_, _, _, _, false, rfl, .ty _, (by first | exact .base (.int _) | exact ty_tup (by assumption) | exact ty_lst (by assumption)), kit_ty (by decide +kernel), ?_⟩
      | refine ⟨_, _, rfl, .inr (by assumption), ?_⟩
      | refine ⟨_, _, rfl, .inl (by assumption), ?_⟩
      | refine ⟨_, _, rfl, (by assumption), rfl, ?_⟩
      | refine ⟨_, rfl, ?_⟩
      | refine ⟨_, _, rfl, rfl, ?_⟩
      | refine ⟨Nat.le_of_ble_eq_true rfl, fun p hp => ?_⟩
      | refine ⟨_, _, rfl, ?_⟩
      | refine ⟨rfl, ?_⟩
      | refine ⟨mul_ok4 (by assumption) (by assumption), ?_⟩
      | fail)
        refine ⟨by omega, by omega, for_it walk_range (fun t σ H' => ∃ x6 x8 x9 x10 x11 u, σ = [some (.ref pn), some (.int n), some (.bl b), x3, some v, some (.ref D), x6, some u, x8, x9, x10, x11] ∧ Kp [pn] H4 H' ∧ Pen H' pn ∧ (u = .non ∨ ∃ X o, u = .ref X ∧ X ≠ pn ∧ o.Perm (List.range n) ∧ Piv (matOf rows) o ∧ FL K H' X n (sol (matOf rows) F o)))
          ⟨none, none, none, none, none, _, rfl, .refl, p4, .inl rfl⟩ (fun _ _ _ _ _ => True.intro) ?_ ?_⟩
        · rintro t x σ H0 H5 ht ⟨x6, x8, x9, x10, x11, u, rfl, k5, p5, hu⟩ ⟨rfl, rfl⟩
          repeat' (first
      | exact q
      | refine ⟨_, _, _, _, rfl, rfl, (by assumption), rfl, ?_⟩
      | refine ⟨_, _, _, _, true, rfl, .ty _, (by first | exact .base (.int _) | exact ty_tup (by assumption) | exact ty_lst (by assumption)), kit_ty (by decide +kernel), ?_⟩
      | refine ⟨_, _, _, _, false, rfl, .ty _, (by first | exact .base (.int _) | exact ty_tup (by assumption) | exact ty_lst (by assumption)), kit_ty (by decide +kernel), ?_⟩
      | refine ⟨_, _, rfl, .inr (by assumption), ?_⟩
      | refine ⟨_, _, rfl, .inl (by assumption), ?_⟩
      | refine ⟨_, _, rfl, (by assumption), rfl, ?_⟩
      | refine ⟨_, rfl, ?_⟩
      | refine ⟨_, _, rfl, rfl, ?_⟩
      | refine ⟨Nat.le_of_ble_eq_true rfl, fun p hp => ?_⟩
      | refine ⟨_, _, rfl, ?_⟩
      | refine ⟨rfl, ?_⟩
      | refine ⟨mul_ok4 (by assumption) (by assumption), ?_⟩
      | fail)
          refine ⟨p5, by omega, fun O H6 o k6 p6 hO eO po => ?_⟩
          have hOn : O ≠ pn := fl_ne (n := 0) (F := fun _ => 0) p5 hO
          have k46 := k5.trans k6
          have sv6 := sv4.mono (k46.tup p4.mob)
          have nd : o.Nodup := po.nodup_iff.mpr List.nodup_range
          have lo : o.length = n := by rw [po.length_eq, List.length_range]
          have hu6 : u = .non ∨ ∃ X o, u = .ref X ∧ X ≠ pn ∧ o.Perm (List.range n) ∧ Piv (matOf rows) o ∧ FL K H6 X n (sol (matOf rows) F o) := hu.imp id fun ⟨X, o, e, ne, po, pv, fl⟩ => ⟨X, o, e, ne, po, pv, fl.kp k6 p5 ne⟩
          repeat' (first
      | exact q
      | refine ⟨_, _, _, _, rfl, rfl, (by assumption), rfl, ?_⟩
      | refine ⟨_, _, _, _, true, rfl, .ty _, (by first | exact .base (.int _) | exact ty_tup (by assumption) | exact ty_lst (by assumption)), kit_ty (by decide +kernel), ?_⟩
      | refine ⟨_, _, _, _, false, rfl, .ty _, (by first | exact .base (.int _) | exact ty_tup (by assumption) | exact ty_lst (by assumption)), kit_ty (by decide +kernel), ?_⟩
      | refine ⟨_, _, rfl, .inr (by assumption), ?_⟩
      | refine ⟨_, _, rfl, .inl (by assumption), ?_⟩
      | refine ⟨_, _, rfl, (by assumption), rfl, ?_⟩
      | refine ⟨_, rfl, ?_⟩
      | refine ⟨_, _, rfl, rfl, ?_⟩
      | refine ⟨Nat.le_of_ble_eq_true rfl, fun p hp => ?_⟩
      | refine ⟨_, _, rfl, ?_⟩
      | refine ⟨rfl, ?_⟩
      | refine ⟨mul_ok4 (by assumption) (by assumption), ?_⟩
      | fail)
          refine ⟨_, O, n, rows, o, rfl, sv6, SqL.of eO, so.good, by omega, lo, nd, fun j hj => List.mem_range.mp (po.mem_iff.mp hj), so.run o po, fun np H7 s7 => ?_, fun hp => ?_⟩
          · have hb : b = false := by
              cases b with
              | false => rfl
              | true => exact absurd (hpv rfl o po) np
            subst hb
            repeat' (first
      | exact q
      | refine ⟨_, _, _, _, rfl, rfl, (by assumption), rfl, ?_⟩
      | refine ⟨_, _, _, _, true, rfl, .ty _, (by first | exact .base (.int _) | exact ty_tup (by assumption) | exact ty_lst (by assumption)), kit_ty (by decide +kernel), ?_⟩
      | refine ⟨_, _, _, _, false, rfl, .ty _, (by first | exact .base (.int _) | exact ty_tup (by assumption) | exact ty_lst (by assumption)), kit_ty (by decide +kernel), ?_⟩
      | refine ⟨_, _, rfl, .inr (by assumption), ?_⟩
      | refine ⟨_, _, rfl, .inl (by assumption), ?_⟩
      | refine ⟨_, _, rfl, (by assumption), rfl, ?_⟩
      | refine ⟨_, rfl, ?_⟩
      | refine ⟨_, _, rfl, rfl, ?_⟩
      | refine ⟨Nat.le_of_ble_eq_true rfl, fun p hp => ?_⟩
      | refine ⟨_, _, rfl, ?_⟩
      | refine ⟨rfl, ?_⟩
      | refine ⟨mul_ok4 (by assumption) (by assumption), ?_⟩
      | fail)
            refine ⟨_, _, _, _, _, u, rfl, k46.trans s7.kp, p6.mono s7, hu6.imp id fun ⟨X, o, e, ne, po, pv, fl⟩ => ⟨X, o, e, ne, po, pv, fl.mono s7⟩⟩
          · intro p7 zs H7 s7 hp7 e7 iz
            obtain ⟨ok, solok, hsol, _⟩ := so.ord o po hp
            have h7n : p7 ≠ pn := fl_ne (n := 0) (F := fun _ => 0) p6 hp7
            have k47 := k46.trans s7.kp
            have p7' := p6.mono s7
            repeat' (first
      | exact q
      | refine ⟨_, _, _, _, rfl, rfl, (by assumption), rfl, ?_⟩
      | refine ⟨_, _, _, _, true, rfl, .ty _, (by first | exact .base (.int _) | exact ty_tup (by assumption) | exact ty_lst (by assumption)), kit_ty (by decide +kernel), ?_⟩
      | refine ⟨_, _, _, _, false, rfl, .ty _, (by first | exact .base (.int _) | exact ty_tup (by assumption) | exact ty_lst (by assumption)), kit_ty (by decide +kernel), ?_⟩
      | refine ⟨_, _, rfl, .inr (by assumption), ?_⟩
      | refine ⟨_, _, rfl, .inl (by assumption), ?_⟩
      | refine ⟨_, _, rfl, (by assumption), rfl, ?_⟩
      | refine ⟨_, rfl, ?_⟩
      | refine ⟨_, _, rfl, rfl, ?_⟩
      | refine ⟨Nat.le_of_ble_eq_true rfl, fun p hp => ?_⟩
      | refine ⟨_, _, rfl, ?_⟩
      | refine ⟨rfl, ?_⟩
      | refine ⟨mul_ok4 (by assumption) (by assumption), ?_⟩
      | fail)
            refine ⟨pn, O, p7, v, n, rows, o, zs, rfl, p7', sv6.mono s7.tup, SqL.of (s7 _ _ eO), SqL.of e7, hOn, h7n, iz, ok, ?_⟩
            rintro _ H8 k8 p8 rfl
            have e8 := k8 p7 _ (by simpa using h7n) e7
            have iz8 := iz.mono (k8.tup p7'.mob)
            have k48 := k47.trans k8
            have eD8 := k48 D _ (by simpa using hDn) eD
            have hu8 : u = .non ∨ ∃ X o, u = .ref X ∧ X ≠ pn ∧ o.Perm (List.range n) ∧ Piv (matOf rows) o ∧ FL K H8 X n (sol (matOf rows) F o) := hu6.imp id fun ⟨X, o, e, ne, po, pv, fl⟩ => ⟨X, o, e, ne, po, pv, (fl.mono s7).kp k8 p7' ne⟩
            repeat' (first
      | exact q
      | refine ⟨_, _, _, _, rfl, rfl, (by assumption), rfl, ?_⟩
      | refine ⟨_, _, _, _, true, rfl, .ty _, (by first | exact .base (.int _) | exact ty_tup (by assumption) | exact ty_lst (by assumption)), kit_ty (by decide +kernel), ?_⟩
      | refine ⟨_, _, _, _, false, rfl, .ty _, (by first | exact .base (.int _) | exact ty_tup (by assumption) | exact ty_lst (by assumption)), kit_ty (by decide +kernel), ?_⟩
      | refine ⟨_, _, rfl, .inr (by assumption), ?_⟩
      | refine ⟨_, _, rfl, .inl (by assumption), ?_⟩
      | refine ⟨_, _, rfl, (by assumption), rfl, ?_⟩
      | refine ⟨_, rfl, ?_⟩
      | refine ⟨_, _, rfl, rfl, ?_⟩
      | refine ⟨Nat.le_of_ble_eq_true rfl, fun p hp => ?_⟩
      | refine ⟨_, _, rfl, ?_⟩
      | refine ⟨rfl, ?_⟩
      | refine ⟨mul_ok4 (by assumption) (by assumption), ?_⟩
      | fail)
            refine ⟨D, xs, rfl, .inl (SqL.of eD8), fun l hl => ?_⟩
            have sl := same_new (o := .lst xs) hl
            refine ⟨p7, l, n, zs, xs, _, F, rfl, SqL.of (sl _ _ e8), iz8.mono sl.tup, by omega, SqL.of upd_same, lx, fun i x ex => (irs i x ex).mono ((k48.trans sl.kp).tup p4.mob), solok, fun X H9 s9 hX flx => ?_⟩
            have s89 := sl.trans s9
            have flx' := flx.congr hsol
            have hXn : X ≠ pn := fl_ne (n := 0) (F := fun _ => 0) (p8.mono sl) hX
            have k49 := k48.trans s89.kp
            have p9 := p8.mono s89
            repeat' (first
      | exact q
      | refine ⟨_, _, _, _, rfl, rfl, (by assumption), rfl, ?_⟩
      | refine ⟨_, _, _, _, true, rfl, .ty _, (by first | exact .base (.int _) | exact ty_tup (by assumption) | exact ty_lst (by assumption)), kit_ty (by decide +kernel), ?_⟩
      | refine ⟨_, _, _, _, false, rfl, .ty _, (by first | exact .base (.int _) | exact ty_tup (by assumption) | exact ty_lst (by assumption)), kit_ty (by decide +kernel), ?_⟩
      | refine ⟨_, _, rfl, .inr (by assumption), ?_⟩
      | refine ⟨_, _, rfl, .inl (by assumption), ?_⟩
      | refine ⟨_, _, rfl, (by assumption), rfl, ?_⟩
      | refine ⟨_, rfl, ?_⟩
      | refine ⟨_, _, rfl, rfl, ?_⟩
      | refine ⟨Nat.le_of_ble_eq_true rfl, fun p hp => ?_⟩
      | refine ⟨_, _, rfl, ?_⟩
      | refine ⟨rfl, ?_⟩
      | refine ⟨mul_ok4 (by assumption) (by assumption), ?_⟩
      | fail)
            rcases hu8 with rfl | ⟨X', o', rfl, ne', po', pv', fl'⟩
            · repeat' (first
      | exact q
      | refine ⟨_, _, _, _, rfl, rfl, (by assumption), rfl, ?_⟩
      | refine ⟨_, _, _, _, true, rfl, .ty _, (by first | exact .base (.int _) | exact ty_tup (by assumption) | exact ty_lst (by assumption)), kit_ty (by decide +kernel), ?_⟩
      | refine ⟨_, _, _, _, false, rfl, .ty _, (by first | exact .base (.int _) | exact ty_tup (by assumption) | exact ty_lst (by assumption)), kit_ty (by decide +kernel), ?_⟩
      | refine ⟨_, _, rfl, .inr (by assumption), ?_⟩
      | refine ⟨_, _, rfl, .inl (by assumption), ?_⟩
      | refine ⟨_, _, rfl, (by assumption), rfl, ?_⟩
      | refine ⟨_, rfl, ?_⟩
      | refine ⟨_, _, rfl, rfl, ?_⟩
      | refine ⟨Nat.le_of_ble_eq_true rfl, fun p hp => ?_⟩
      | refine ⟨_, _, rfl, ?_⟩
      | refine ⟨rfl, ?_⟩
      | refine ⟨mul_ok4 (by assumption) (by assumption), ?_⟩
      | fail)
              exact ⟨_, _, _, _, _, _, rfl, k49, p9, .inr ⟨X, o, rfl, hXn, po, hp, flx'⟩⟩
            · repeat' (first
      | exact q
      | refine ⟨_, _, _, _, rfl, rfl, (by assumption), rfl, ?_⟩
      | refine ⟨_, _, _, _, true, rfl, .ty _, (by first | exact .base (.int _) | exact ty_tup (by assumption) | exact ty_lst (by assumption)), kit_ty (by decide +kernel), ?_⟩
      | refine ⟨_, _, _, _, false, rfl, .ty _, (by first | exact .base (.int _) | exact ty_tup (by assumption) | exact ty_lst (by assumption)), kit_ty (by decide +kernel), ?_⟩
      | refine ⟨_, _, rfl, .inr (by assumption), ?_⟩
      | refine ⟨_, _, rfl, .inl (by assumption), ?_⟩
      | refine ⟨_, _, rfl, (by assumption), rfl, ?_⟩
      | refine ⟨_, rfl, ?_⟩
      | refine ⟨_, _, rfl, rfl, ?_⟩
      | refine ⟨Nat.le_of_ble_eq_true rfl, fun p hp => ?_⟩
      | refine ⟨_, _, rfl, ?_⟩
      | refine ⟨rfl, ?_⟩
      | refine ⟨mul_ok4 (by assumption) (by assumption), ?_⟩
      | fail)
              refine ⟨tw_fl flx' (fl'.mono s89) (fun j hj => sol_same (po'.nodup_iff.mpr List.nodup_range) (po.trans po'.symm) pv' hp j (po'.mem_iff.mpr (List.mem_range.mpr hj))) (by omega), fun H10 s10 => ?_⟩
              repeat' (first
      | exact q
      | refine ⟨_, _, _, _, rfl, rfl, (by assumption), rfl, ?_⟩
      | refine ⟨_, _, _, _, true, rfl, .ty _, (by first | exact .base (.int _) | exact ty_tup (by assumption) | exact ty_lst (by assumption)), kit_ty (by decide +kernel), ?_⟩
      | refine ⟨_, _, _, _, false, rfl, .ty _, (by first | exact .base (.int _) | exact ty_tup (by assumption) | exact ty_lst (by assumption)), kit_ty (by decide +kernel), ?_⟩
      | refine ⟨_, _, rfl, .inr (by assumption), ?_⟩
      | refine ⟨_, _, rfl, .inl (by assumption), ?_⟩
      | refine ⟨_, _, rfl, (by assumption), rfl, ?_⟩
      | refine ⟨_, rfl, ?_⟩
      | refine ⟨_, _, rfl, rfl, ?_⟩
      | refine ⟨Nat.le_of_ble_eq_true rfl, fun p hp => ?_⟩
      | refine ⟨_, _, rfl, ?_⟩
      | refine ⟨rfl, ?_⟩
      | refine ⟨mul_ok4 (by assumption) (by assumption), ?_⟩
      | fail)
              exact ⟨_, _, _, _, _, _, rfl, k49.trans s10.kp, p9.mono s10, .inr ⟨X, o, rfl, hXn, po, hp, flx'.mono s10⟩⟩
        · rintro σ H5 ⟨x6, x8, x9, x10, x11, u, rfl, k5, p5, hu⟩
          repeat' (first
      | exact q
      | refine ⟨_, _, _, _, rfl, rfl, (by assumption), rfl, ?_⟩
      | refine ⟨_, _, _, _, true, rfl, .ty _, (by first | exact .base (.int _) | exact ty_tup (by assumption) | exact ty_lst (by assumption)), kit_ty (by decide +kernel), ?_⟩
      | refine ⟨_, _, _, _, false, rfl, .ty _, (by first | exact .base (.int _) | exact ty_tup (by assumption) | exact ty_lst (by assumption)), kit_ty (by decide +kernel), ?_⟩
      | refine ⟨_, _, rfl, .inr (by assumption), ?_⟩
      | refine ⟨_, _, rfl, .inl (by assumption), ?_⟩
      | refine ⟨_, _, rfl, (by assumption), rfl, ?_⟩
      | refine ⟨_, rfl, ?_⟩
      | refine ⟨_, _, rfl, rfl, ?_⟩
      | refine ⟨Nat.le_of_ble_eq_true rfl, fun p hp => ?_⟩
      | refine ⟨_, _, rfl, ?_⟩
      | refine ⟨rfl, ?_⟩
      | refine ⟨mul_ok4 (by assumption) (by assumption), ?_⟩
      | fail)
          have k05 := k04.trans k5
          rcases hu with rfl | ⟨X, o, rfl, hXn, po, hp, fl⟩
          · exact ite_t rfl (q _ H5 k05 p5 rfl)
          · refine ite_f (fun h => nomatch h) ?_
            obtain ⟨ok, _, _, hcomes⟩ := so.ord o po hp
            obtain ⟨ws, eX, lX, _⟩ := id fl
            have seqX : SqL K H5 X ws := SqL.of eX
            repeat' (first
      | exact q
      | refine ⟨_, _, _, _, rfl, rfl, (by assumption), rfl, ?_⟩
      | refine ⟨_, _, _, _, true, rfl, .ty _, (by first | exact .base (.int _) | exact ty_tup (by assumption) | exact ty_lst (by assumption)), kit_ty (by decide +kernel), ?_⟩
      | refine ⟨_, _, _, _, false, rfl, .ty _, (by first | exact .base (.int _) | exact ty_tup (by assumption) | exact ty_lst (by assumption)), kit_ty (by decide +kernel), ?_⟩
      | refine ⟨_, _, rfl, .inr (by assumption), ?_⟩
      | refine ⟨_, _, rfl, .inl (by assumption), ?_⟩
      | refine ⟨_, _, rfl, (by assumption), rfl, ?_⟩
      | refine ⟨_, rfl, ?_⟩
      | refine ⟨_, _, rfl, rfl, ?_⟩
      | refine ⟨Nat.le_of_ble_eq_true rfl, fun p hp => ?_⟩
      | refine ⟨_, _, rfl, ?_⟩
      | refine ⟨rfl, ?_⟩
      | refine ⟨mul_ok4 (by assumption) (by assumption), ?_⟩
      | fail)
            rw [decide_eq_true (show V.int ((ws.length : Nat) : Int) = V.int ((n : Nat) : Int) by rw [lX])]
            repeat' (first
      | exact q
      | refine ⟨_, _, _, _, rfl, rfl, (by assumption), rfl, ?_⟩
      | refine ⟨_, _, _, _, true, rfl, .ty _, (by first | exact .base (.int _) | exact ty_tup (by assumption) | exact ty_lst (by assumption)), kit_ty (by decide +kernel), ?_⟩
      | refine ⟨_, _, _, _, false, rfl, .ty _, (by first | exact .base (.int _) | exact ty_tup (by assumption) | exact ty_lst (by assumption)), kit_ty (by decide +kernel), ?_⟩
      | refine ⟨_, _, rfl, .inr (by assumption), ?_⟩
      | refine ⟨_, _, rfl, .inl (by assumption), ?_⟩
      | refine ⟨_, _, rfl, (by assumption), rfl, ?_⟩
      | refine ⟨_, rfl, ?_⟩
      | refine ⟨_, _, rfl, rfl, ?_⟩
      | refine ⟨Nat.le_of_ble_eq_true rfl, fun p hp => ?_⟩
      | refine ⟨_, _, rfl, ?_⟩
      | refine ⟨rfl, ?_⟩
      | refine ⟨mul_ok4 (by assumption) (by assumption), ?_⟩
      | fail)
            have eD5 := k5 D _ (by simpa using hDn) eD
            have t45 := k5.tup p4.mob
            refine ⟨_, X, D, n, rows, _, F, xs, rfl, (sv4.mono t45).im, so.good.1, by omega, fl, SqL.of eD5, lx, fun i x ex => (irs i x ex).mono t45, hcomes, fun H6 s6 => q _ H6 (k05.trans s6.kp) (p5.mono s6) rfl⟩
    obtain ⟨tt, ptt, htt⟩ := tail
    refine ⟨_, (pss_cons (ps_set (i := 1) sc_law_right.nd rfl (.inl rfl) (pe_ix ix_listK (pe_lst (pa_cons pe_int (pa_cons pe_int (pa_cons pe_int (pa_cons pe_int (pa_cons pe_int (pa_cons pe_int (pa_cons pe_int (pa_cons pe_int pa_nil))))))))) (pe_fn h_law_draw hr pass0 (pa_cons (pv 0) (pa_cons pe_int pa_nil))) (fun _ _ => rfl)))
  (pss_cons (ps_set (i := 2) sc_law_right.nd rfl (.inl rfl) (pe_cmpR op_eq (pe_fn h_law_draw hr pass0 (pa_cons (pv 0) (pa_cons pe_int pa_nil))) pe_int (nomark _)))
  (pss_cons (ps_if (pt_not (pt_val (pv 2)))
  (pss_one (ps_set (i := 1) sc_law_right.nd rfl (.inl rfl) (pe_callB (call_min2 rfl) (by rfl) T.B.min bo_min (pa_cons (pv 1) (pa_cons pe_int pa_nil)))))
  pss_nil)
  (pss_cons (ps_set (i := 3) sc_law_right.nd rfl (.inl rfl) (pe_fn h_law_rows hr pass0 (pa_cons (pv 0) (pa_cons (pv 1) pa_nil))))
  (pss_cons (ps_if (pt_val (pv 2))
  (pss_one (ps_set (i := 3) sc_law_right.nd rfl (.inl rfl) (pe_fn h_law_above_all hr pass0 (pa_cons (pv 0) (pa_cons (pv 3) pa_nil)))))
  pss_nil)
  (pss_cons (ps_set (i := 4) sc_law_right.nd rfl (.inl rfl) (pe_tup (pa_cons (pv 1) (pa_cons (pv 3) pa_nil))))
  ptt)))))), ?_⟩
    repeat' (first
      | exact q
      | refine ⟨_, _, _, _, rfl, rfl, (by assumption), rfl, ?_⟩
      | refine ⟨_, _, _, _, true, rfl, .ty _, (by first | exact .base (.int _) | exact ty_tup (by assumption) | exact ty_lst (by assumption)), kit_ty (by decide +kernel), ?_⟩
      | refine ⟨_, _, _, _, false, rfl, .ty _, (by first | exact .base (.int _) | exact ty_tup (by assumption) | exact ty_lst (by assumption)), kit_ty (by decide +kernel), ?_⟩
      | refine ⟨_, _, rfl, .inr (by assumption), ?_⟩
      | refine ⟨_, _, rfl, .inl (by assumption), ?_⟩
      | refine ⟨_, _, rfl, (by assumption), rfl, ?_⟩
      | refine ⟨_, rfl, ?_⟩
      | refine ⟨_, _, rfl, rfl, ?_⟩
      | refine ⟨Nat.le_of_ble_eq_true rfl, fun p hp => ?_⟩
      | refine ⟨_, _, rfl, ?_⟩
      | refine ⟨rfl, ?_⟩
      | refine ⟨mul_ok4 (by assumption) (by assumption), ?_⟩
      | fail)
    have sL := same_new (o := .lst [.int 4, .int 3, .int 5, .int 2, .int 6, .int 1, .int 0, .int 5]) hp
    have hLn : p ≠ pn := fun z => by obtain ⟨i, j, k, e⟩ := hpn; rw [← z, hp] at e; cases e
    refine ⟨hpn.mono sL, by omega, by omega, ?_⟩
    rintro _ H1 k1 p1 ⟨d, rfl, d0, d1⟩
    have eL := k1 p _ (by simpa using hLn) (upd_same (o := .lst [.int 4, .int 3, .int 5, .int 2, .int 6, .int 1, .int 0, .int 5]))
    have hz : ∃ z : Nat, atI [V.int 4, .int 3, .int 5, .int 2, .int 6, .int 1, .int 0, .int 5] d = some (.int (z : Nat)) ∧ z ≤ 6 := by
      have : d = 0 ∨ d = 1 ∨ d = 2 ∨ d = 3 ∨ d = 4 ∨ d = 5 ∨ d = 6 ∨ d = 7 := by omega
      rcases this with e | e | e | e | e | e | e | e <;> rw [e]
      · exact ⟨4, rfl, by decide⟩
      · exact ⟨3, rfl, by decide⟩
      · exact ⟨5, rfl, by decide⟩
      · exact ⟨2, rfl, by decide⟩
      · exact ⟨6, rfl, by decide⟩
      · exact ⟨1, rfl, by decide⟩
      · exact ⟨0, rfl, by decide⟩
      · exact ⟨5, rfl, by decide⟩
    obtain ⟨z, ez, z6⟩ := hz
    have k01 : Kp [pn] H H1 := sL.kp.trans k1
    clear k1 sL
    refine ⟨_, _, _, _, rfl, rfl, SqL.of eL, ez, ?_⟩
    repeat' (first
      | exact q
      | refine ⟨_, _, _, _, rfl, rfl, (by assumption), rfl, ?_⟩
      | refine ⟨_, _, _, _, true, rfl, .ty _, (by first | exact .base (.int _) | exact ty_tup (by assumption) | exact ty_lst (by assumption)), kit_ty (by decide +kernel), ?_⟩
      | refine ⟨_, _, _, _, false, rfl, .ty _, (by first | exact .base (.int _) | exact ty_tup (by assumption) | exact ty_lst (by assumption)), kit_ty (by decide +kernel), ?_⟩
      | refine ⟨_, _, rfl, .inr (by assumption), ?_⟩
      | refine ⟨_, _, rfl, .inl (by assumption), ?_⟩
      | refine ⟨_, _, rfl, (by assumption), rfl, ?_⟩
      | refine ⟨_, rfl, ?_⟩
      | refine ⟨_, _, rfl, rfl, ?_⟩
      | refine ⟨Nat.le_of_ble_eq_true rfl, fun p hp => ?_⟩
      | refine ⟨_, _, rfl, ?_⟩
      | refine ⟨rfl, ?_⟩
      | refine ⟨mul_ok4 (by assumption) (by assumption), ?_⟩
      | fail)
    refine ⟨p1, by omega, by omega, ?_⟩
    rintro _ H2 k2 p2 ⟨d', rfl, d0', d1'⟩
    have k02 := k01.trans k2
    repeat' (first
      | exact q
      | refine ⟨_, _, _, _, rfl, rfl, (by assumption), rfl, ?_⟩
      | refine ⟨_, _, _, _, true, rfl, .ty _, (by first | exact .base (.int _) | exact ty_tup (by assumption) | exact ty_lst (by assumption)), kit_ty (by decide +kernel), ?_⟩
      | refine ⟨_, _, _, _, false, rfl, .ty _, (by first | exact .base (.int _) | exact ty_tup (by assumption) | exact ty_lst (by assumption)), kit_ty (by decide +kernel), ?_⟩
      | refine ⟨_, _, rfl, .inr (by assumption), ?_⟩
      | refine ⟨_, _, rfl, .inl (by assumption), ?_⟩
      | refine ⟨_, _, rfl, (by assumption), rfl, ?_⟩
      | refine ⟨_, rfl, ?_⟩
      | refine ⟨_, _, rfl, rfl, ?_⟩
      | refine ⟨Nat.le_of_ble_eq_true rfl, fun p hp => ?_⟩
      | refine ⟨_, _, rfl, ?_⟩
      | refine ⟨rfl, ?_⟩
      | refine ⟨mul_ok4 (by assumption) (by assumption), ?_⟩
      | fail)
    have fin : ∀ (n : Nat) (b : Bool) (rows : List (List Part)) (H5 : Hp) (x3 : Option V) (b5 : Addr) (xs : List V), n ≤ 6 → Kp [pn] H H5 → Pen H5 pn → SqT K H5 b5 xs → RowsP K H5 xs rows → (∀ F : Nat → Rat, (∀ i < n, NumOk (F i)) → SheetOk n rows F ∧ (b = true → ∀ o : List Nat, o.Perm (List.range n) → Piv (matOf rows) o)) →
        ∀ p, H5 p = none → tt { nx := fun _ H' => Q .non H', rt := Q } [some (.ref pn), some (.int n), some (.bl b), x3, some (.ref p), none, none, none, none, none, none, none] (L2.upd H5 p (.tup [.int (n : Nat), .ref b5])) := fun n b rows H5 x3 b5 xs hn k5 p5 tb rp hC p hp => by
      have s6 := same_new (o := .tup [.int (n : Nat), .ref b5]) hp
      exact htt n b rows x3 (.ref p) _ hn (k5.trans s6.kp) (p5.mono s6) ⟨p, b5, xs, rfl, .of upd_same, Same.tt s6 tb, rp.mono s6.tup⟩ hC
    by_cases hb : d' = 0
    · rw [decide_eq_true (show V.int d' = V.int 0 by rw [hb])]
      repeat' (first
      | exact q
      | refine ⟨_, _, _, _, rfl, rfl, (by assumption), rfl, ?_⟩
      | refine ⟨_, _, _, _, true, rfl, .ty _, (by first | exact .base (.int _) | exact ty_tup (by assumption) | exact ty_lst (by assumption)), kit_ty (by decide +kernel), ?_⟩
      | refine ⟨_, _, _, _, false, rfl, .ty _, (by first | exact .base (.int _) | exact ty_tup (by assumption) | exact ty_lst (by assumption)), kit_ty (by decide +kernel), ?_⟩
      | refine ⟨_, _, rfl, .inr (by assumption), ?_⟩
      | refine ⟨_, _, rfl, .inl (by assumption), ?_⟩
      | refine ⟨_, _, rfl, (by assumption), rfl, ?_⟩
      | refine ⟨_, rfl, ?_⟩
      | refine ⟨_, _, rfl, rfl, ?_⟩
      | refine ⟨Nat.le_of_ble_eq_true rfl, fun p hp => ?_⟩
      | refine ⟨_, _, rfl, ?_⟩
      | refine ⟨rfl, ?_⟩
      | refine ⟨mul_ok4 (by assumption) (by assumption), ?_⟩
      | fail)
      refine ⟨p2, by omega, fun b1 H3 xs rows k3 p3 tb rp rok => ?_⟩
      repeat' (first
      | exact q
      | refine ⟨_, _, _, _, rfl, rfl, (by assumption), rfl, ?_⟩
      | refine ⟨_, _, _, _, true, rfl, .ty _, (by first | exact .base (.int _) | exact ty_tup (by assumption) | exact ty_lst (by assumption)), kit_ty (by decide +kernel), ?_⟩
      | refine ⟨_, _, _, _, false, rfl, .ty _, (by first | exact .base (.int _) | exact ty_tup (by assumption) | exact ty_lst (by assumption)), kit_ty (by decide +kernel), ?_⟩
      | refine ⟨_, _, rfl, .inr (by assumption), ?_⟩
      | refine ⟨_, _, rfl, .inl (by assumption), ?_⟩
      | refine ⟨_, _, rfl, (by assumption), rfl, ?_⟩
      | refine ⟨_, rfl, ?_⟩
      | refine ⟨_, _, rfl, rfl, ?_⟩
      | refine ⟨Nat.le_of_ble_eq_true rfl, fun p hp => ?_⟩
      | refine ⟨_, _, rfl, ?_⟩
      | refine ⟨rfl, ?_⟩
      | refine ⟨mul_ok4 (by assumption) (by assumption), ?_⟩
      | fail)
      refine ⟨pn, b1, z, xs, rows, rfl, p3, tb, rp, rok, by omega, fun b2 H4 xs' rows' k4 p4 tb' rp' hl sr => ?_⟩
      repeat' (first
      | exact q
      | refine ⟨_, _, _, _, rfl, rfl, (by assumption), rfl, ?_⟩
      | refine ⟨_, _, _, _, true, rfl, .ty _, (by first | exact .base (.int _) | exact ty_tup (by assumption) | exact ty_lst (by assumption)), kit_ty (by decide +kernel), ?_⟩
      | refine ⟨_, _, _, _, false, rfl, .ty _, (by first | exact .base (.int _) | exact ty_tup (by assumption) | exact ty_lst (by assumption)), kit_ty (by decide +kernel), ?_⟩
      | refine ⟨_, _, rfl, .inr (by assumption), ?_⟩
      | refine ⟨_, _, rfl, .inl (by assumption), ?_⟩
      | refine ⟨_, _, rfl, (by assumption), rfl, ?_⟩
      | refine ⟨_, rfl, ?_⟩
      | refine ⟨_, _, rfl, rfl, ?_⟩
      | refine ⟨Nat.le_of_ble_eq_true rfl, fun p hp => ?_⟩
      | refine ⟨_, _, rfl, ?_⟩
      | refine ⟨rfl, ?_⟩
      | refine ⟨mul_ok4 (by assumption) (by assumption), ?_⟩
      | fail)
      exact fin z true rows' H4 _ b2 xs' z6 (k02.trans (k3.trans k4)) p4 tb' rp' (fun F hF => ⟨(hS z rows' F z6 hl sr hF).1, fun _ => (hS z rows' F z6 hl sr hF).2⟩) p hp
    · rw [decide_eq_false (show ¬ V.int d' = V.int 0 from int_ne hb)]
      repeat' (first
      | exact q
      | refine ⟨_, _, _, _, rfl, rfl, (by assumption), rfl, ?_⟩
      | refine ⟨_, _, _, _, true, rfl, .ty _, (by first | exact .base (.int _) | exact ty_tup (by assumption) | exact ty_lst (by assumption)), kit_ty (by decide +kernel), ?_⟩
      | refine ⟨_, _, _, _, false, rfl, .ty _, (by first | exact .base (.int _) | exact ty_tup (by assumption) | exact ty_lst (by assumption)), kit_ty (by decide +kernel), ?_⟩
      | refine ⟨_, _, rfl, .inr (by assumption), ?_⟩
      | refine ⟨_, _, rfl, .inl (by assumption), ?_⟩
      | refine ⟨_, _, rfl, (by assumption), rfl, ?_⟩
      | refine ⟨_, rfl, ?_⟩
      | refine ⟨_, _, rfl, rfl, ?_⟩
      | refine ⟨Nat.le_of_ble_eq_true rfl, fun p hp => ?_⟩
      | refine ⟨_, _, rfl, ?_⟩
      | refine ⟨rfl, ?_⟩
      | refine ⟨mul_ok4 (by assumption) (by assumption), ?_⟩
      | fail)
      obtain ⟨m, hm, m4⟩ : ∃ m : Nat, (if (4 : Int) < (z : Nat) then 4 else ((z : Nat) : Int)) = (m : Int) ∧ m ≤ 4 := by
        by_cases h : (4 : Int) < (z : Nat)
        · exact ⟨4, if_pos h, by omega⟩
        · exact ⟨z, if_neg h, by omega⟩
      rw [hm]
      repeat' (first
      | exact q
      | refine ⟨_, _, _, _, rfl, rfl, (by assumption), rfl, ?_⟩
      | refine ⟨_, _, _, _, true, rfl, .ty _, (by first | exact .base (.int _) | exact ty_tup (by assumption) | exact ty_lst (by assumption)), kit_ty (by decide +kernel), ?_⟩
      | refine ⟨_, _, _, _, false, rfl, .ty _, (by first | exact .base (.int _) | exact ty_tup (by assumption) | exact ty_lst (by assumption)), kit_ty (by decide +kernel), ?_⟩
      | refine ⟨_, _, rfl, .inr (by assumption), ?_⟩
      | refine ⟨_, _, rfl, .inl (by assumption), ?_⟩
      | refine ⟨_, _, rfl, (by assumption), rfl, ?_⟩
      | refine ⟨_, rfl, ?_⟩
      | refine ⟨_, _, rfl, rfl, ?_⟩
      | refine ⟨Nat.le_of_ble_eq_true rfl, fun p hp => ?_⟩
      | refine ⟨_, _, rfl, ?_⟩
      | refine ⟨rfl, ?_⟩
      | refine ⟨mul_ok4 (by assumption) (by assumption), ?_⟩
      | fail)
      refine ⟨p2, by omega, fun b1 H3 xs rows k3 p3 tb rp rok => ?_⟩
      repeat' (first
      | exact q
      | refine ⟨_, _, _, _, rfl, rfl, (by assumption), rfl, ?_⟩
      | refine ⟨_, _, _, _, true, rfl, .ty _, (by first | exact .base (.int _) | exact ty_tup (by assumption) | exact ty_lst (by assumption)), kit_ty (by decide +kernel), ?_⟩
      | refine ⟨_, _, _, _, false, rfl, .ty _, (by first | exact .base (.int _) | exact ty_tup (by assumption) | exact ty_lst (by assumption)), kit_ty (by decide +kernel), ?_⟩
      | refine ⟨_, _, rfl, .inr (by assumption), ?_⟩
      | refine ⟨_, _, rfl, .inl (by assumption), ?_⟩
      | refine ⟨_, _, rfl, (by assumption), rfl, ?_⟩
      | refine ⟨_, rfl, ?_⟩
      | refine ⟨_, _, rfl, rfl, ?_⟩
      | refine ⟨Nat.le_of_ble_eq_true rfl, fun p hp => ?_⟩
      | refine ⟨_, _, rfl, ?_⟩
      | refine ⟨rfl, ?_⟩
      | refine ⟨mul_ok4 (by assumption) (by assumption), ?_⟩
      | fail)
      exact fin m false rows H3 _ b1 xs (by omega) (k02.trans k3) p3 tb rp (fun F hF => ⟨hA m rows F m4 rok hF, fun h => nomatch h⟩) p hp
end
end FW
end

/-! ## W19 -/
section
set_option Elab.async false
set_option linter.all false
set_option maxRecDepth 100000
set_option maxHeartbeats 4000000
namespace FW
open PySem PySem.Spec PyProof.Rows L2 FF
section
variable {P : Program} {w : World} {K : PySem.W.Frag} {mg : Str → Option Value} {base : Heap}
def sp_law (K : PySem.W.Frag) : Sp := fun vs H Q _ => ∃ (a : Addr) (ns : List Int), vs = [.ref a] ∧ SqL K H a (ns.map V.int) ∧ ns.length ≤ 63 ∧ ∀ H', Q (.bl true) H'
abbrev s_law : Stmt := topS 64
theorem sc_law : FnScope ["_law_script", "_law_k"] ["_law_script"] (defScope s_law) := ⟨rfl, rfl, rfl, by decide +kernel, rfl, by decide +kernel, by decide +kernel⟩
theorem law_ok (T : Tops K mg) (hS : SureAll) (hA : AnyAll) {fa : Addr} {fd : FuncData} (F : Fun K "law" "law" (topS 64) fa fd) : FnOk P w K mg base CX0 13 fa fd ["_law_script"] (sp_law K) := by
  have h_law_right : Fn P w K mg base CX0 12 "_law_right" _ _ := (fn_law_right T hS hA).mono (by decide)
  have h_law_pen : Fn P w K mg base CX0 12 "_law_pen" _ _ := (fn_law_pen T).mono (by decide)
  refine F.ok sc_law (fun vs H Q E h => ?_) (fun cdv A outer s H vs Q E hr h => ?_)
  · obtain ⟨a, ns, rfl, _⟩ := h; rfl
  · obtain ⟨a, ns, rfl, la, hl, q⟩ := h
    refine ⟨_, (pss_one (ps_ret (pe_callB (cr_allK rfl) (by rfl) T.B.all bo_all (pa_cons (pe_lc (own := [("_law_k", 1)]) (g := gName 1) (tt := tYes) rfl sc_law.nd (pi_range1 (by rfl) T.B.range (pa_cons (pe_callB (call_max2 rfl) (by rfl) T.B.max bo_max (pa_cons pe_int (pa_cons (pe_callB (call_min2 rfl) (by rfl) T.B.min bo_min (pa_cons (pe_callB call_len_seqK (by rfl) T.B.len bo_len (pa_cons (pv 0) pa_nil)) (pa_cons pe_int pa_nil))) pa_nil))) pa_nil)) (blkOk_by (N := ["_law_script", "_law_k"]) (sc := defScope s_law) (by decide +kernel)) (fun _ _ _ _ _ => (pg_name (i := 1) sc_law.nd rfl (.inl rfl))) (fun _ _ _ _ _ => pts_nil) (fun _ _ _ _ _ => (pe_fn h_law_right hr pass0 (pa_cons (pe_fn h_law_pen hr pass0 (pa_cons (pv 0) (pa_cons (pv 1) pa_nil))) pa_nil)))) pa_nil)))), ?_⟩
    repeat' (first
      | exact q
      | refine ⟨_, _, _, _, rfl, rfl, (by assumption), rfl, ?_⟩
      | refine ⟨_, _, _, _, true, rfl, .ty _, (by first | exact .base (.int _) | exact ty_tup (by assumption) | exact ty_lst (by assumption)), kit_ty (by decide +kernel), ?_⟩
      | refine ⟨_, _, _, _, false, rfl, .ty _, (by first | exact .base (.int _) | exact ty_tup (by assumption) | exact ty_lst (by assumption)), kit_ty (by decide +kernel), ?_⟩
      | refine ⟨_, _, rfl, .inr (by assumption), ?_⟩
      | refine ⟨_, _, rfl, .inl (by assumption), ?_⟩
      | refine ⟨_, _, rfl, (by assumption), rfl, ?_⟩
      | refine ⟨_, rfl, ?_⟩
      | refine ⟨_, _, rfl, rfl, ?_⟩
      | refine ⟨Nat.le_of_ble_eq_true rfl, fun p hp => ?_⟩
      | refine ⟨_, _, rfl, ?_⟩
      | refine ⟨rfl, ?_⟩
      | refine ⟨mul_ok4 (by assumption) (by assumption), ?_⟩
      | fail)
    obtain ⟨m, hm, m8⟩ : ∃ m : Nat, (if (if (8 : Int) < (((ns.map V.int).length : Nat) : Int) then (8 : Int) else (((ns.map V.int).length : Nat) : Int)) > 1 then (if (8 : Int) < (((ns.map V.int).length : Nat) : Int) then (8 : Int) else (((ns.map V.int).length : Nat) : Int)) else 1) = (m : Int) ∧ m ≤ 8 := by
      generalize (ns.map V.int).length = t
      by_cases h : (8 : Int) < (t : Nat)
      · rw [if_pos h]; exact ⟨8, rfl, by omega⟩
      · rw [if_neg h]
        by_cases h2 : ((t : Nat) : Int) > 1
        · exact ⟨t, if_pos h2, by omega⟩
        · exact ⟨1, if_neg h2, by omega⟩
    rw [hm]
    refine ⟨by omega, by omega, fun D hD => lc_a walk_range (PBl fun _ => true) PBl.m1 PBl.m2 hD (by simp; omega) (fun _ _ => True.intro) (fun i x H1 H2 Qy hi s1 yy k => ?_) (fun H1 hacc => ?_)⟩
    · obtain ⟨rfl, rfl⟩ := yy
      refine ⟨rfl, ?_⟩
      refine ⟨_, rfl, _, rfl, a, ns, i, ?_, s1.seq la, by simp at hi; omega, fun p H3 s3 hp p3 => ?_⟩
      · show [V.ref a, V.int (0 + (i : Nat))] ++ [] = _
        rw [Int.zero_add]; rfl
      refine ⟨p, rfl, p3, ?_⟩
      rintro _ H4 k4 p4 rfl
      refine k _ _ (fun b o e => ?_) rfl
      refine k4 b o (fun hm => ?_) (s3 b o e)
      rw [List.mem_singleton.mp hm, hp] at e
      cases e
    · obtain ⟨s2, bs, eD, eb⟩ := hacc.allT
      refine ⟨_, _, rfl, SqL.of eD, ?_⟩
      rw [eb]
      exact q _
end
end FW
end

/-! ## W20 -/
section
set_option Elab.async false
set_option linter.all false
set_option maxRecDepth 100000
set_option maxHeartbeats 4000000
namespace FW
open PySem PySem.Spec PyProof.Rows L2 FF
/-! ### the sheet over whole numbers -/
structure Fit (n : Nat) (A : Mat) (F : Nat → Rat) (d : Nat → Int) (b : Nat) : Prop where
  d0 : ∀ i < n, d i ≠ 0 ∧ (d i).natAbs < 2 ^ 101
  sz : b ≤ 100 ∧ n ≤ 6 ∧ (∀ k < n, bk b k ≤ 1000) ∧ (2 ^ n - 1) * (b + 1) + 2 * n + 1 ≤ 2000
  f : ∀ i < n, ∃ y : Int, y.natAbs < 2 ^ b ∧ F i * (d i : Rat) = (y : Rat)
  a : ∀ i < n, ∀ j < n, ∃ x : Int, x.natAbs < 2 ^ b ∧ A i j * (d i : Rat) = (x : Rat)
section
variable {n : Nat} {A : Mat} {F : Nat → Rat} {d : Nat → Int} {b : Nat} {o : List Nat}
theorem Fit.stg (h : Fit n A F d b) (hl : ∀ j ∈ o, j < n) : Stg A F d b o := by
  classical
  refine ⟨1, fun i j => if hi : i < n ∧ j < n then (h.a i hi.1 j hi.2).choose else 0, fun i => if hi : i < n then (h.f i hi).choose else 0, by decide, by
    show 1 < 2 ^ (b + 1)
    have : 1 ≤ 2 ^ b := Nat.one_le_two_pow
    rw [Nat.pow_succ]; omega, fun i hi => ?_⟩
  have hin := hl i hi
  refine ⟨(h.d0 i hin).1, ?_, ?_, fun j hj => ?_⟩
  · simp only [dif_pos hin]; exact (h.f i hin).choose_spec.1
  · simp only [dif_pos hin]
    rw [show ((1 : Int) : Rat) = 1 from rfl, Rat.mul_one]; exact (h.f i hin).choose_spec.2
  · have hjn := hl j hj
    have hij : i < n ∧ j < n := ⟨hin, hjn⟩
    simp only [dif_pos hij]
    refine ⟨(h.a i hin j hjn).choose_spec.1, ?_⟩
    rw [show ((1 : Int) : Rat) = 1 from rfl, Rat.mul_one]; exact (h.a i hin j hjn).choose_spec.2
theorem Fit.smRun (h : Fit n A F d b) (hl : ∀ j ∈ o, j < n) (lo : o.length = n) : SmRun A o := fun p v r e hp => by
  have hpre : Pre A p (v :: r) := pre_of p fun p' v' r' e' hl' => hp p' v' r' (by rw [e, e']) (by omega)
  have hv : runM A p (v :: r) v v ≠ 0 := hp p v r e (Nat.le_refl _)
  have st := stg_run p hpre (by rw [← e]; exact h.stg hl)
  have hlen : p.length + (r.length + 1) = n := by rw [← lo, e]; simp
  have hd : ∀ i ∈ v :: r, (d i).natAbs < 2 ^ 101 := fun i hi => (h.d0 i (hl i (by rw [e]; exact List.mem_append_right _ hi))).2
  have hb := h.sz.2.2.1 p.length (by omega)
  refine ⟨fun i hi j hj => st.sm hb hd hi hj, fun i hi => st.smL hv hb hd hi, fun i hi j hj => st.smP hv hb hd hi (List.mem_cons_of_mem _ hj), fun i hi j hj => ?_⟩
  have hr : 1 ≤ r.length := by
    cases r with
    | nil => cases hi
    | cons _ _ => simp
  have hb2 := h.sz.2.2.1 (p.length + 1) (by omega)
  have st2 := st.step hv
  have eb : 2 * bk b p.length + 1 = bk b (p.length + 1) := by
    unfold bk
    rw [Nat.pow_succ]
    have : 1 ≤ 2 ^ p.length * (b + 1) := Nat.mul_pos (Nat.one_le_two_pow) (by omega)
    have e2 : 2 ^ p.length * 2 * (b + 1) = 2 * (2 ^ p.length * (b + 1)) := by grind
    rw [e2]; omega
  rw [eb] at st2
  have := st2.sm hb2 (fun i hi => hd i (List.mem_cons_of_mem _ hi)) hi hj
  unfold stk at this
  rw [if_pos ⟨hi, hj⟩] at this
  exact this
theorem cut_at {α : Type} : ∀ {k : Nat} {o : List α}, k < o.length → ∃ p v r, o = p ++ v :: r ∧ p.length = k
  | 0, v :: r, _ => ⟨[], v, r, rfl, rfl⟩
  | k + 1, a :: o, h => by
    obtain ⟨p, v, r, e, l⟩ := cut_at (k := k) (o := o) (by simpa using h)
    exact ⟨a :: p, v, r, by rw [e]; rfl, by simp [l]⟩
theorem work_get {k : Nat} {w : W1} (e : (work n A o)[k]? = some w) : ∃ p v r, o = p ++ v :: r ∧ p.length = k ∧ w = w1 n (runM A p (v :: r)) v r := by
  have hk := (List.getElem?_eq_some_iff.mp e).1
  rw [work_length] at hk
  obtain ⟨p, v, r, eo, l⟩ := cut_at hk
  subst l
  have := work_at n p A v r
  rw [← eo, e] at this
  exact ⟨p, v, r, eo, rfl, Option.some.inj this⟩
theorem Fit.stage (h : Fit n A F d b) (hl : ∀ j ∈ o, j < n) (lo : o.length = n) (hp : Piv A o) {p r : List Nat} {v : Nat} (e : o = p ++ v :: r) :
    Stg (runM A p (v :: r)) (fwR A F p (v :: r)) d (bk b p.length) (v :: r) ∧ bk b p.length ≤ 1000 ∧ (∀ i ∈ v :: r, (d i).natAbs < 2 ^ 101) ∧ runM A p (v :: r) v v ≠ 0 ∧ p.length + (r.length + 1) = n ∧ ∀ i ∈ v :: r, i < n := by
  have hlen : p.length + (r.length + 1) = n := by rw [← lo, e]; simp
  have hin : ∀ i ∈ v :: r, i < n := fun i hi => hl i (by rw [e]; exact List.mem_append_right _ hi)
  have hpre : Pre A p (v :: r) := pre_piv p (by rw [← e]; exact hp)
  exact ⟨stg_run p hpre (by rw [← e]; exact h.stg hl), h.sz.2.2.1 p.length (by omega), fun i hi => (h.d0 i (hin i hi)).2, piv_at p A v r (by rw [← e]; exact hp), hlen, hin⟩
theorem parts_ok {l m : List Nat} {f : Nat → Rat} (hm : ∀ j, j ∈ srt n l → j ∈ m) (hs : ∀ j ∈ l, Sm (f j)) : PartsOk (parts (srt n l) f) m := by
  refine ⟨?_, fun p hp => ?_⟩
  · unfold plc parts srt
    rw [List.map_map]
    show (List.map (fun j => j) _).Pairwise (· < ·)
    rw [List.map_id']
    exact (List.pairwise_lt_range.filter _).filter _
  · obtain ⟨h1, h2, h3⟩ := mem_parts.mp hp
    rw [h3]
    exact ⟨hm _ h1, h2, hs _ (by simpa using (List.mem_filter.mp h1).2)⟩
theorem Fit.workOk (h : Fit n A F d b) (hl : ∀ j ∈ o, j < n) (lo : o.length = n) (hp : Piv A o) : WorkOk (work n A o) o := by
  refine ⟨work_length n o A, fun k w e => ?_⟩
  obtain ⟨p, v, r, eo, l, rfl⟩ := work_get e
  obtain ⟨st, hb, hd, hv, hlen, hin⟩ := h.stage hl lo hp eo
  have ed : o.drop (k + 1) = r := by
    rw [eo, ← l, show p ++ v :: r = (p ++ [v]) ++ r by simp]
    exact List.drop_left' (by simp)
  rw [ed]
  refine ⟨by rw [eo, ← l]; simp [w1], hv, st.sm hb hd List.mem_cons_self List.mem_cons_self, parts_ok (fun j hj => by simpa using (List.mem_filter.mp hj).2) fun j hj => st.sm hb hd List.mem_cons_self (List.mem_cons_of_mem _ hj), parts_ok (fun j hj => by simpa using (List.mem_filter.mp hj).2) fun j hj => st.smL hv hb hd hj⟩
theorem sm_one : Sm 1 := NumOk.sm ⟨by decide, by decide⟩
theorem Fit.smA (h : Fit n A F d b) {i j : Nat} (hi : i < n) (hj : j < n) : Sm (A i j) := (h.stg (o := [i, j]) (fun k hk => by simp at hk; omega)).sm (by have := h.sz.1; omega) (fun k hk => (h.d0 k (by simp at hk; omega)).2) (by simp) (by simp)
theorem cl_parts {n v : Nat} {r : List Nat} {f : Nat → Rat} {x : Rat} (hv : v < n) (hvr : v ∉ r) (hr : ∀ j ∈ r, j < n) : (plc ((v, x) :: parts (srt n r) f)).Nodup ∧ ∀ p ∈ (v, x) :: parts (srt n r) f, p.1 < n := by
  refine ⟨?_, fun p hp => ?_⟩
  · show (v :: plc (parts (srt n r) f)).Nodup
    refine List.nodup_cons.mpr ⟨fun hm => ?_, ?_⟩
    · obtain ⟨p, hp, e⟩ := List.mem_map.mp hm
      have := (mem_parts.mp hp).1
      rw [e] at this
      exact hvr (by simpa using (List.mem_filter.mp this).2)
    · unfold plc parts srt
      rw [List.map_map]
      show (List.map (fun j => j) _).Nodup
      rw [List.map_id']
      exact (List.nodup_range.filter _).filter _
  · rcases List.mem_cons.mp hp with rfl | hp
    · exact hv
    · exact hr _ (by simpa using (List.mem_filter.mp (mem_parts.mp hp).1).2)
theorem Fit.putOk (h : Fit n A F d b) (nd : o.Nodup) (hl : ∀ j ∈ o, j < n) (lo : o.length = n) (hp : Piv A o) : PutOk n (work n A o) := by
  have all : ∀ w ∈ work n A o, ((plc (clW w)).Nodup ∧ ∀ p ∈ clW w, p.1 < n) ∧ (plc (jlW w)).Nodup ∧ ∀ p ∈ jlW w, p.1 < n := fun w hw => by
    obtain ⟨k, e⟩ := List.getElem?_of_mem hw
    obtain ⟨p, v, r, eo, l, rfl⟩ := work_get e
    obtain ⟨_, _, _, _, _, hin⟩ := h.stage hl lo hp eo
    have hvr : v ∉ r := by
      rw [eo] at nd
      exact (List.nodup_cons.mp (List.nodup_append.mp nd).2.1).1
    exact ⟨cl_parts (hin v List.mem_cons_self) hvr fun j hj => hin j (List.mem_cons_of_mem _ hj), cl_parts (hin v List.mem_cons_self) hvr fun j hj => hin j (List.mem_cons_of_mem _ hj)⟩
  refine ⟨fun w hw => (all w hw).1, fun w hw => (all w hw).2, fun k w e => ⟨fun a ha c hc => ?_⟩⟩
  obtain ⟨p, v, r, eo, l, rfl⟩ := work_get e
  obtain ⟨st, hb, hd, hv, hlen, hin⟩ := h.stage hl lo hp eo
  have nd' : (p ++ v :: r).Nodup := by rw [← eo]; exact nd
  have hG : ∀ i ∈ v :: r, ∀ j ∈ v :: r, ((work n A o).take k).foldl addW (fun _ _ => 0) i j = A i j - runM A p (v :: r) i j := fun i hi j hj => by
    have t := take_work n p A (v :: r) (fun _ _ => 0) nd' (by rw [← eo]; exact hl)
    rw [← eo, l] at t
    rw [t]
    have g := gpM_eq p (G := fun _ _ => 0) nd' (by rw [← eo]; exact hp) i j
    rw [if_pos ⟨hi, hj⟩, if_pos ⟨List.mem_append_right _ hi, List.mem_append_right _ hj⟩] at g
    grind
  have ic : a.1 ∈ v :: r ∧ ((a.1 = v ∧ a.2 = 1) ∨ (a.1 ∈ r ∧ a.2 = runM A p (v :: r) a.1 v / runM A p (v :: r) v v)) := by
    rcases List.mem_cons.mp ha with rfl | ha
    · exact ⟨List.mem_cons_self, .inl ⟨rfl, rfl⟩⟩
    · obtain ⟨h1, h2, h3⟩ := mem_parts.mp ha
      have : a.1 ∈ r := by simpa using (List.mem_filter.mp h1).2
      exact ⟨List.mem_cons_of_mem _ this, .inr ⟨this, h3⟩⟩
  have jc : c.1 ∈ v :: r ∧ c.2 = runM A p (v :: r) v c.1 := by
    rcases List.mem_cons.mp hc with rfl | hc
    · exact ⟨List.mem_cons_self, rfl⟩
    · obtain ⟨h1, h2, h3⟩ := mem_parts.mp hc
      have : c.1 ∈ r := by simpa using (List.mem_filter.mp h1).2
      exact ⟨List.mem_cons_of_mem _ this, h3⟩
  obtain ⟨hi, hic⟩ := ic
  obtain ⟨hj, hjc⟩ := jc
  generalize a.1 = i at hi hic
  generalize c.1 = j at hj hjc
  rw [hG i hi j hj, hjc]
  have hin1 := hin i hi
  have hjn1 := hin j hj
  obtain ⟨x, xb, xe⟩ := h.a i hin1 j hjn1
  have hx : x.natAbs < 2 ^ 101 := nab_up xb (by have := h.sz.1; omega)
  have q1 := st.smD hb hd hi hj hx xe
  have q3 := st.sm hb hd List.mem_cons_self hj
  rcases hic with ⟨rfl, e2⟩ | ⟨hir, e2⟩
  · rw [e2]
    refine ⟨q1, sm_one, q3, by rw [Rat.one_mul]; exact q3, ?_⟩
    rw [Rat.one_mul, show A i j - runM A p (i :: r) i j + runM A p (i :: r) i j = A i j by grind]
    exact h.smA hin1 hjn1
  · rw [e2]
    refine ⟨q1, st.smL hv hb hd hir, q3, st.smP hv hb hd hir hj, ?_⟩
    rcases List.mem_cons.mp hj with rfl | hjr
    · rw [show A i j - runM A p (j :: r) i j + runM A p (j :: r) i j / runM A p (j :: r) j j * runM A p (j :: r) j j = A i j by grind]
      exact h.smA hin1 hjn1
    · have hr : 1 ≤ r.length := by
        cases r with
        | nil => cases hjr
        | cons _ _ => simp
      have hb2 := h.sz.2.2.1 (p.length + 1) (by omega)
      have st2 := st.step hv
      have eb : 2 * bk b p.length + 1 = bk b (p.length + 1) := by
        unfold bk
        rw [Nat.pow_succ]
        have : 1 ≤ 2 ^ p.length * (b + 1) := Nat.mul_pos (Nat.one_le_two_pow) (by omega)
        have e2 : 2 ^ p.length * 2 * (b + 1) = 2 * (2 ^ p.length * (b + 1)) := by grind
        rw [e2]; omega
      rw [eb] at st2
      have q := st2.smD hb2 (fun i hi => hd i (List.mem_cons_of_mem _ hi)) hir hjr hx xe
      unfold stk at q
      rw [if_pos ⟨hir, hjr⟩] at q
      rw [show A i j - runM A p (v :: r) i j + runM A p (v :: r) i v / runM A p (v :: r) v v * runM A p (v :: r) v j = A i j - (runM A p (v :: r) i j - runM A p (v :: r) i v / runM A p (v :: r) v v * runM A p (v :: r) v j) by grind]
      exact q
end
end FW
end

/-! ## W21 -/
section
set_option Elab.async false
set_option linter.all false
set_option maxRecDepth 100000
set_option maxHeartbeats 4000000
namespace FW
open PySem PySem.Spec PyProof.Rows L2 FF
section
variable {n : Nat}
theorem sm_srt {r : List Nat} (nd : r.Nodup) (hr : ∀ j ∈ r, j < n) (f : Nat → Rat) : sm (srt n r) f = sm r f := by
  refine sm_same (List.nodup_range.filter _) nd (fun a ha _ => by simpa using (List.mem_filter.mp ha).2) (fun a ha _ => ?_)
  exact List.mem_filter.mpr ⟨List.mem_range.mpr (hr a ha), by simpa using ha⟩
theorem take_fw : ∀ (p : List Nat) {L : Mat} {F : Nat → Rat} {r : List Nat}, (∀ j ∈ p ++ r, j < n) → ((work n L (p ++ r)).take p.length).foldl fwW F = fwR L F p r
  | [], _, _, _, _ => rfl
  | v :: p, L, F, r, h => by
    show ((work n (stk L v (p ++ r)) (p ++ r)).take p.length).foldl fwW (fwW F (w1 n L v (p ++ r))) = _
    rw [fwW_w1 (r := p ++ r) fun j hj => h j (List.mem_cons_of_mem _ hj)]
    exact take_fw p fun j hj => h j (List.mem_cons_of_mem _ hj)
theorem fin_sol : ∀ {o : List Nat} {L : Mat} {F : Nat → Rat}, o.Nodup → (∀ j ∈ o, j < n) → ∀ j, solW F (work n L o) j = if j ∈ o then sol L F o j else F j
  | [], L, F, _, _, j => rfl
  | v :: r, L, F, nd, hl, j => by
    have hv : v ∉ r := (List.nodup_cons.mp nd).1
    have hr : ∀ j ∈ r, j < n := fun j hj => hl j (List.mem_cons_of_mem _ hj)
    have ih := fin_sol (L := stk L v r) (F := fwd L F v r) (List.nodup_cons.mp nd).2 hr
    have e : solW F (work n L (v :: r)) = bkW (solW (fwd L F v r) (work n (stk L v r) r)) (w1 n L v r) := by
      unfold solW
      show ((w1 n L v r :: work n (stk L v r) r).reverse).foldl bkW ((work n (stk L v r) r).foldl fwW (fwW F (w1 n L v r))) = _
      rw [fwW_w1 hr, List.reverse_cons, List.foldl_append]; rfl
    have eg : solW (fwd L F v r) (work n (stk L v r) r) v = F v := by
      rw [ih, if_neg hv]; unfold fwd; rw [if_neg hv]
    rw [e]
    by_cases hj : j = v
    · subst hj
      rw [if_pos List.mem_cons_self]
      show (if j = j then _ else _) = _
      rw [if_pos rfl]
      show (solW (fwd L F j r) (work n (stk L j r) r) j - psum _ (parts (srt n r) (L j))) / L j j = _
      rw [eg, psum_parts, sm_srt (List.nodup_cons.mp nd).2 hr]
      simp only [sol, if_true]
      rw [sm_congr (g := fun k => L j k * sol (stk L j r) (fwd L F j r) r k) fun a ha => by rw [ih, if_pos ha]]
    · show (if j = v then _ else _) = _
      rw [if_neg hj, ih]
      by_cases hjr : j ∈ r
      · rw [if_pos hjr, if_pos (List.mem_cons_of_mem _ hjr)]
        simp only [sol, hj, if_false]
      · rw [if_neg hjr, if_neg (by simp [hj, hjr])]
        unfold fwd
        rw [if_neg hjr]
variable {A : Mat} {F : Nat → Rat} {d : Nat → Int} {b : Nat} {o : List Nat}
theorem Fit.fwOk (h : Fit n A F d b) (nd : o.Nodup) (hl : ∀ j ∈ o, j < n) (lo : o.length = n) (hp : Piv A o) : ∀ k w, (work n A o)[k]? = some w → FwOk n (((work n A o).take k).foldl fwW F) w := fun k w e => by
  obtain ⟨p, v, r, eo, l, rfl⟩ := work_get e
  obtain ⟨st, hb, hd, hv, hlen, hin⟩ := h.stage hl lo hp eo
  have t := take_fw (n := n) p (L := A) (F := F) (r := v :: r) (by rw [← eo]; exact hl)
  rw [← eo, l] at t
  rw [t]
  have hvr : v ∉ r := by
    rw [eo] at nd
    exact (List.nodup_cons.mp (List.nodup_append.mp nd).2.1).1
  have inr : ∀ a ∈ parts (srt n r) (fun i => runM A p (v :: r) i v / runM A p (v :: r) v v), a.1 ∈ r ∧ a.2 = runM A p (v :: r) a.1 v / runM A p (v :: r) v v := fun a ha => by
    obtain ⟨h1, h2, h3⟩ := mem_parts.mp ha
    exact ⟨by simpa using (List.mem_filter.mp h1).2, h3⟩
  refine ⟨hin v List.mem_cons_self, ?_, fun a ha => ?_, fun a ha => ?_⟩
  · exact (List.nodup_cons.mp (cl_parts (x := 1) (f := fun i => runM A p (v :: r) i v / runM A p (v :: r) v v) (hin v List.mem_cons_self) hvr fun j hj => hin j (List.mem_cons_of_mem _ hj)).1).2
  · obtain ⟨h1, _⟩ := inr a ha
    exact ⟨hin _ (List.mem_cons_of_mem _ h1), fun z => hvr (by rw [← show a.1 = v from z]; exact h1)⟩
  · obtain ⟨h1, h2⟩ := inr a ha
    have hr : 1 ≤ r.length := by
      cases r with
      | nil => cases h1
      | cons _ _ => simp
    have hb2 := h.sz.2.2.1 (p.length + 1) (by omega)
    have st2 := st.step hv
    have eb : 2 * bk b p.length + 1 = bk b (p.length + 1) := by
      unfold bk
      rw [Nat.pow_succ]
      have : 1 ≤ 2 ^ p.length * (b + 1) := Nat.mul_pos (Nat.one_le_two_pow) (by omega)
      have e2 : 2 ^ p.length * 2 * (b + 1) = 2 * (2 ^ p.length * (b + 1)) := by grind
      rw [e2]; omega
    rw [eb] at st2
    have q := st2.smF hb2 (fun i hi => hd i (List.mem_cons_of_mem _ hi)) h1
    unfold fwd at q
    rw [if_pos h1] at q
    rw [h2]
    exact ⟨st.smF hb hd (List.mem_cons_of_mem _ h1), st.smL hv hb hd h1, st.smF hb hd List.mem_cons_self, st.smPF hv hb hd h1, q⟩
/-- some of a row's parts -/
theorem psum_take (G f : Nat → Rat) (l : List Nat) (k : Nat) : psum G ((parts l f).take k) = sm ((l.filter fun j => decide (f j ≠ 0)).take k) fun j => f j * G j := by
  unfold parts
  rw [← List.map_take]
  generalize (l.filter fun j => decide (f j ≠ 0)).take k = m
  induction m with
  | nil => rfl
  | cons a m ih =>
    show f a * G a + psum G _ = f a * G a + sm m _
    rw [ih]
theorem bkOk_all : ∀ {o : List Nat} {L : Mat} {F : Nat → Rat} {b : Nat}, o.Nodup → (∀ j ∈ o, j < n) → Piv L o → Stg L F d b o → o.length ≤ 6 → (∀ k < o.length, bk b k ≤ 1000) → (2 ^ o.length - 1) * (b + 1) + 2 * o.length + 1 ≤ 2000 → (∀ i ∈ o, (d i).natAbs < 2 ^ 101) →
    ∀ k w, (work n L o).reverse[k]? = some w → BkOk n (((work n L o).reverse.take k).foldl bkW ((work n L o).foldl fwW F)) w
  | [], L, F, b, _, _, _, _, _, _, _, _, k, w, e => by simp [work] at e
  | v :: r, L, F, b, nd, hl, hp, st, h6, hbk, hA, hd, k, w, e => by
    have hv : v ∉ r := (List.nodup_cons.mp nd).1
    have ndr := (List.nodup_cons.mp nd).2
    have hr : ∀ j ∈ r, j < n := fun j hj => hl j (List.mem_cons_of_mem _ hj)
    have hlr : r.length ≤ 5 := by simp at h6; omega
    have hb : b ≤ 1000 := by have := hbk 0 (by simp); unfold bk at this; simp at this; exact this
    have ew : work n L (v :: r) = w1 n L v r :: work n (stk L v r) r := rfl
    have ef : (work n L (v :: r)).foldl fwW F = (work n (stk L v r) r).foldl fwW (fwd L F v r) := by
      rw [ew]
      show (work n (stk L v r) r).foldl fwW (fwW F (w1 n L v r)) = _
      rw [fwW_w1 hr]
    have e2 : (2 ^ r.length - 1) * (2 * b + 1 + 1) + 2 * r.length + 1 ≤ 2000 := by
      refine Nat.le_trans ?_ hA
      rw [List.length_cons, Nat.pow_succ]
      have h1 : 1 ≤ 2 ^ r.length := Nat.one_le_two_pow
      obtain ⟨m, hm⟩ : ∃ m, 2 ^ r.length = m + 1 := ⟨2 ^ r.length - 1, by omega⟩
      rw [hm, show (m + 1) * 2 - 1 = 2 * m + 1 by omega, show m + 1 - 1 = m by omega]
      have : m * (2 * b + 1 + 1) = 2 * m * (b + 1) := by grind
      rw [this, Nat.add_mul]; omega
    have st2 := st.step hp.1
    have hlen : (work n (stk L v r) r).reverse.length = r.length := by rw [List.length_reverse, work_length]
    rw [ef]
    rw [ew, List.reverse_cons] at e ⊢
    by_cases hk : k < r.length
    · rw [List.getElem?_append_left (by rw [hlen]; exact hk)] at e
      rw [List.take_append_of_le_length (by rw [hlen]; omega)]
      refine bkOk_all ndr hr hp.2 st2 (by omega) (fun j hj => ?_) e2 (fun i hi => hd i (List.mem_cons_of_mem _ hi)) k w e
      rw [bk_succ]
      exact hbk (j + 1) (by simp; omega)
    · have hk' : k = r.length := by
        have := (List.getElem?_eq_some_iff.mp e).1
        rw [List.length_append, hlen] at this
        simp at this
        omega
      subst hk'
      rw [← hlen, List.getElem?_append_right (Nat.le_refl _)] at e
      simp at e
      subst e
      rw [List.take_append_of_le_length (by rw [hlen]; omega), List.take_of_length_le (by rw [hlen]; omega)]
      show BkOk n (solW (fwd L F v r) (work n (stk L v r) r)) (w1 n L v r)
      have fs := fin_sol (n := n) (L := stk L v r) (F := fwd L F v r) ndr hr
      generalize hG : solW (fwd L F v r) (work n (stk L v r) r) = G at fs
      have gv : G v = F v := by rw [fs, if_neg hv]; unfold fwd; rw [if_neg hv]
      have an := sol_ans ndr hp.2 st2 (by omega)
      have anG : Ans G r _ := an.congr fun j hj => by rw [fs, if_pos hj]
      have inr : ∀ a ∈ parts (srt n r) (L v), a.1 ∈ r ∧ a.2 = L v a.1 := fun a ha => by
        obtain ⟨h1, h2, h3⟩ := mem_parts.mp ha
        exact ⟨by simpa using (List.mem_filter.mp h1).2, h3⟩
      have ps : ∀ k, Sm (G v - psum G ((parts (srt n r) (L v)).take k)) := fun k => by
        rw [gv, psum_take]
        have hsub : ∀ j ∈ ((srt n r).filter fun j => decide (L v j ≠ 0)).take k, j ∈ r := fun j hj => by
          simpa using (List.mem_filter.mp (List.mem_filter.mp (List.mem_of_mem_take hj)).1).2
        refine part_sm st anG hb e2 hd hsub ?_
        have nd3 : (((srt n r).filter fun j => decide (L v j ≠ 0)).take k).Nodup := ((List.nodup_range.filter _).filter _).sublist (List.take_sublist _ _)
        have := nd3.length_le_of_subset hsub
        omega
      refine ⟨hl v List.mem_cons_self, fun a ha => ?_, fun j a ea => ?_, ?_⟩
      · obtain ⟨h1, _⟩ := inr a ha
        exact ⟨hr _ h1, fun z => hv (by rw [← show a.1 = v from z]; exact h1)⟩
      · obtain ⟨h1, h2⟩ := inr a (List.mem_of_getElem? ea)
        rw [h2]
        exact ⟨ps j, st.sm hb hd List.mem_cons_self (List.mem_cons_of_mem _ h1), anG.sm (by omega) h1, prod_sm st anG hb e2 hd h1, ps (j + 1)⟩
      · have pa := ps (parts (srt n r) (L v)).length
        rw [List.take_length] at pa
        refine ⟨pa, st.sm hb hd List.mem_cons_self List.mem_cons_self, hp.1, ?_⟩
        have av := (sol_ans nd hp st h6).sm (by omega) (j := v) List.mem_cons_self
        have es := fin_sol (n := n) (F := F) nd hl v (L := L)
        rw [if_pos List.mem_cons_self] at es
        rw [← es] at av
        have e3 : solW F (work n L (v :: r)) v = (G v - psum G (parts (srt n r) (L v))) / L v v := by
          unfold solW
          rw [ef, ew, List.reverse_cons, List.foldl_append, ← hG]
          show (if v = v then _ else _) = _
          rw [if_pos rfl]; rfl
        rw [e3] at av
        exact av
end
end FW
end

/-! ## W22 -/
section
set_option Elab.async false
set_option linter.all false
set_option maxRecDepth 100000
set_option maxHeartbeats 4000000
namespace FW
open PySem PySem.Spec PyProof.Rows L2 FF
section
variable {n : Nat} {rows : List (List Part)} {F : Nat → Rat} {d : Nat → Int} {b : Nat} {o : List Nat}
theorem psum_plc {G f : Nat → Rat} : ∀ {r : List Part}, (∀ p ∈ r, p.2 = f p.1) → psum G r = sm (plc r) fun j => f j * G j
  | [], _ => rfl
  | p :: r, h => by
    show p.2 * G p.1 + psum G r = f p.1 * G p.1 + sm (plc r) _
    rw [psum_plc fun q hq => h q (List.mem_cons_of_mem _ hq), h p List.mem_cons_self]
theorem Fit.comesOk (h : Fit n (matOf rows) F d b) (gr : GoodRows n rows) (po : o.Perm (List.range n)) (hp : Piv (matOf rows) o) {i : Nat} {r : List Part} (er : rows[i]? = some r) : ComesOk (sol (matOf rows) F o) r (F i) n := by
  have nd : o.Nodup := po.nodup_iff.mpr List.nodup_range
  have lo : o.length = n := by rw [po.length_eq, List.length_range]
  have hl : ∀ j ∈ o, j < n := fun j hj => List.mem_range.mp (po.mem_iff.mp hj)
  have hi : i < n := by rw [← gr.1]; exact (List.getElem?_eq_some_iff.mp er).1
  have g := gr.2.2 r (List.mem_of_getElem? er)
  have ndr : (plc r).Nodup := g.inc.imp fun h => Nat.ne_of_lt h
  have ea : ∀ j, matOf rows i j = rowF r j := fun j => by unfold matOf; rw [List.getD_eq_getElem?_getD, er]; rfl
  have ep : ∀ p ∈ r, p.2 = matOf rows i p.1 := fun p hp => by rw [ea, rowF_mem ndr hp]
  have an := sol_ans nd hp (h.stg hl) (by rw [lo]; exact h.sz.2.1)
  have inO : ∀ j, j < n → j ∈ o := fun j hj => po.mem_iff.mpr (List.mem_range.mpr hj)
  have rs : ∀ l : List Nat, (∀ j ∈ l, j < n) → l.length ≤ 6 → Sm (sm l fun j => matOf rows i j * sol (matOf rows) F o j) := fun l hl' h6 => by
    classical
    refine row_sm (c := 0) an (by rw [lo]; exact h.sz.2.2.2) (h.d0 i hi).1 (h.d0 i hi).2 (X := fun j => if hj : j < n then (h.a i hi j hj).choose else 0) (fun j hj => inO j (hl' j hj)) h6 fun j hj => ?_
    have hj' := hl' j hj
    simp only [dif_pos hj']
    exact ⟨nab_up (h.a i hi j hj').choose_spec.1 (by have := h.sz.1; omega), (h.a i hi j hj').choose_spec.2⟩
  have lr : r.length ≤ 6 := Nat.le_trans g.len h.sz.2.1
  have tk : ∀ k, Sm (psum (sol (matOf rows) F o) (r.take k)) := fun k => by
    rw [psum_plc (f := matOf rows i) fun p hp => ep p (List.mem_of_mem_take hp)]
    refine rs _ (fun j hj => ?_) (by unfold plc; rw [List.length_map, List.length_take]; omega)
    obtain ⟨p, hp, rfl⟩ := List.mem_map.mp hj
    exact (g.good p (List.mem_of_mem_take hp)).1
  refine ⟨fun p hp => (g.good p hp).1, fun k p e => ?_, ?_⟩
  · have hm := List.mem_of_getElem? e
    have hpn := (g.good p hm).1
    have one := rs [p.1] (fun j hj => by rw [List.mem_singleton.mp hj]; exact hpn) (by simp)
    rw [show sm [p.1] (fun j => matOf rows i j * sol (matOf rows) F o j) = p.2 * sol (matOf rows) F o p.1 by
      show matOf rows i p.1 * sol (matOf rows) F o p.1 + 0 = _
      rw [← ep p hm]; grind] at one
    refine ⟨tk k, ?_, an.sm (by rw [lo]; have := h.sz.2.2.2; omega) (inO _ hpn), one, tk (k + 1)⟩
    rw [ep p hm]
    exact h.smA hi hpn
  · rw [psum_plc ep, ← sol_right (F := F) nd hp i (inO i hi)]
    refine sm_same ndr nd (fun a ha _ => ?_) (fun a ha hz => ?_)
    · obtain ⟨p, hp, rfl⟩ := List.mem_map.mp ha
      exact inO _ (g.good p hp).1
    · have : matOf rows i a ≠ 0 := fun z => hz (by rw [z]; grind)
      rw [ea] at this
      exact List.mem_map.mpr ⟨_, rowF_ne this, rfl⟩
theorem Fit.sheetOk (h : Fit n (matOf rows) F d b) (gr : GoodRows n rows) : SheetOk n rows F := by
  have nd : ∀ {o : List Nat}, o.Perm (List.range n) → o.Nodup := fun po => po.nodup_iff.mpr List.nodup_range
  have lo : ∀ {o : List Nat}, o.Perm (List.range n) → o.length = n := fun po => by rw [po.length_eq, List.length_range]
  have hl : ∀ {o : List Nat}, o.Perm (List.range n) → ∀ j ∈ o, j < n := fun po j hj => List.mem_range.mp (po.mem_iff.mp hj)
  refine ⟨gr, fun o po => h.smRun (hl po) (lo po), fun o po hp => ⟨⟨gr, by have := h.sz.2.1; omega, po, hp, h.workOk (hl po) (lo po) hp, h.putOk (nd po) (hl po) (lo po) hp, fun o' po' => h.smRun (hl po') (lo po')⟩, ⟨h.fwOk (nd po) (hl po) (lo po) hp, ?_⟩, fun j hj => ?_, fun i r er => h.comesOk gr po hp er⟩⟩
  · exact bkOk_all (d := d) (b := b) (nd po) (hl po) hp (h.stg (hl po)) (by rw [lo po]; exact h.sz.2.1) (by rw [lo po]; exact h.sz.2.2.1) (by rw [lo po]; exact h.sz.2.2.2) fun i hi => (h.d0 i (hl po i hi)).2
  · rw [fin_sol (nd po) (hl po), if_pos (po.mem_iff.mpr (List.mem_range.mpr hj))]
end
end FW
end

/-! ## W23 -/
section
set_option Elab.async false
set_option linter.all false
set_option maxRecDepth 100000
set_option maxHeartbeats 4000000
namespace FW
open PySem PySem.Spec PyProof.Rows L2 FF
section
variable {n i : Nat} {rows : List (List Part)} {F : Nat → Rat} {r : List Part}
/-- a sure row as a function -/
theorem SureRow.fn (h : SureRow n i r) : ∃ (b : List Part) (dd : Int), 1 ≤ dd ∧ dd ≤ 3 ∧ (plc b).Nodup ∧ rowF r i = (dd : Rat) + asum b ∧ (∀ p ∈ b, rowF r p.1 = p.2) ∧ (∀ j, j ≠ i → rowF r j ≠ 0 → j ∈ plc b) ∧
    ∀ p ∈ b, p.1 < n ∧ p.1 ≠ i ∧ ∃ x : Int, p.2 * ((6 : Int) : Rat) = (x : Rat) ∧ x.natAbs ≤ 24 := by
  obtain ⟨b, dd, h1, h2, pm, nd, hb⟩ := h.ex
  have ndr : (plc r).Nodup := h.good.inc.imp fun h => Nat.ne_of_lt h
  refine ⟨b, dd, h1, h2, nd, rowF_mem ndr (p := (i, _)) (pm.mem_iff.mpr (by simp)), fun p hp => rowF_mem ndr (pm.mem_iff.mpr (List.mem_append_left _ hp)), fun j hj hz => ?_, fun p hp => ⟨(hb p hp).1, (hb p hp).2.1, (hb p hp).2.2.2⟩⟩
  rcases List.mem_append.mp (pm.mem_iff.mp (rowF_ne hz)) with h | h
  · exact List.mem_map.mpr ⟨_, h, rfl⟩
  · simp at h
    exact absurd h.1 hj
theorem asum_plc {f : Nat → Rat} : ∀ {b : List Part}, (∀ p ∈ b, f p.1 = p.2) → sm (plc b) (fun j => ab (f j)) = asum b
  | [], _ => rfl
  | p :: b, h => by
    show ab (f p.1) + sm (plc b) _ = ab p.2 + asum b
    rw [asum_plc fun q hq => h q (List.mem_cons_of_mem _ hq), h p List.mem_cons_self]
theorem SureRow.dom (h : SureRow n i r) {o : List Nat} (nd : o.Nodup) (ho : ∀ j, j < n → j ∈ o) : sm (o.filter fun a => decide (a ≠ i)) (fun j => ab (rowF r j)) < ab (rowF r i) := by
  obtain ⟨b, dd, h1, h2, ndb, e, hp, hz, hb⟩ := h.fn
  rw [sm_same (m := plc b) (nd.filter _) ndb (fun a ha hz' => hz a (by simpa using (List.mem_filter.mp ha).2) fun z => hz' (by rw [z]; exact ab_zero)) (fun a ha _ => by
    obtain ⟨p, hp, rfl⟩ := List.mem_map.mp ha
    exact List.mem_filter.mpr ⟨ho _ (hb p hp).1, by simpa using (hb p hp).2.1⟩), asum_plc hp, e]
  have h3 := asum_nn b
  have h4 : ((1 : Int) : Rat) ≤ (dd : Rat) := Rat.intCast_le_intCast.mpr h1
  have h5 : ((1 : Int) : Rat) = 1 := rfl
  rw [h5] at h4
  unfold ab
  rw [if_neg (by grind)]
  grind
theorem SureRow.six (h : SureRow n i r) (hn : n ≤ 6) (j : Nat) : ∃ x : Int, rowF r j * ((6 : Int) : Rat) = (x : Rat) ∧ x.natAbs ≤ 200 := by
  obtain ⟨b, dd, h1, h2, ndb, e, hp, hz, hb⟩ := h.fn
  by_cases hj : j = i
  · subst hj
    obtain ⟨x, ex, hx⟩ := asum_six (r := b) fun p hp => (hb p hp).2.2
    have lb : b.length ≤ 6 := by
      have := nodup_le ndb (fun a ha => by
        obtain ⟨p, hp, rfl⟩ := List.mem_map.mp ha
        exact (hb p hp).1)
      unfold plc at this
      rw [List.length_map] at this
      omega
    refine ⟨dd * 6 + x, ?_, by omega⟩
    rw [e, Rat.intCast_add, Rat.intCast_mul, ← ex]; grind
  · by_cases hz' : rowF r j = 0
    · exact ⟨0, by rw [hz']; grind, by decide⟩
    · obtain ⟨p, hpb, rfl⟩ := List.mem_map.mp (hz j hj hz')
      rw [hp p hpb]
      obtain ⟨x, ex, hx⟩ := (hb p hpb).2.2
      exact ⟨x, ex, by omega⟩
theorem sure_all : SureAll := fun n rows F hn hl sr nF => by
  have gr : GoodRows n rows := ⟨hl, by omega, fun r hr => by
    obtain ⟨i, e⟩ := List.getElem?_of_mem hr
    exact (sr i r e).good⟩
  have row : ∀ i < n, ∃ r, SureRow n i r ∧ ∀ j, matOf rows i j = rowF r j := fun i hi => by
    have e := List.getElem?_eq_getElem (show i < rows.length by rw [hl]; exact hi)
    exact ⟨_, sr i _ e, fun j => by unfold matOf; rw [List.getD_eq_getElem?_getD, e]; rfl⟩
  have fit : Fit n (matOf rows) F (fun i => 6 * ((F i).den : Int)) 28 := by
    refine ⟨fun i hi => ?_, ?_, fun i hi => ?_, fun i hi j hj => ?_⟩
    · have := (nF i hi).2
      have h0 := (F i).den_nz
      exact ⟨by omega, Nat.lt_of_le_of_lt (show (6 * ((F i).den : Int)).natAbs ≤ 6000000 by omega) (by decide)⟩
    · have : n = 0 ∨ n = 1 ∨ n = 2 ∨ n = 3 ∨ n = 4 ∨ n = 5 ∨ n = 6 := by omega
      rcases this with e | e | e | e | e | e | e <;> subst e <;> exact ⟨by decide, by decide, by decide, by decide⟩
    · have := (nF i hi).1
      refine ⟨6 * (F i).num, Nat.lt_of_le_of_lt (show (6 * (F i).num).natAbs ≤ 6000000 by omega) (by decide), ?_⟩
      have h0 := (F i).den_nz
      have e : F i * ((F i).den : Rat) = ((F i).num : Rat) := by
        have h1 := Rat.num_divInt_den (F i)
        rw [Rat.divInt_eq_div] at h1
        have h2 : (((F i).den : Int) : Rat) = ((F i).den : Rat) := rfl
        rw [h2] at h1
        have h3 : ((F i).den : Rat) ≠ 0 := by exact_mod_cast h0
        grind
      rw [Rat.intCast_mul, Rat.intCast_mul, ← e]
      have : (((F i).den : Int) : Rat) = ((F i).den : Rat) := rfl
      rw [this]; grind
    · obtain ⟨r, hs, ea⟩ := row i hi
      obtain ⟨x, ex, hx⟩ := hs.six hn j
      have := (nF i hi).2
      refine ⟨x * ((F i).den : Int), ?_, ?_⟩
      · rw [Int.natAbs_mul]
        have : x.natAbs * ((F i).den : Int).natAbs ≤ 200 * 1000000 := Nat.mul_le_mul hx (by omega)
        exact Nat.lt_of_le_of_lt this (by decide)
      · rw [ea, Rat.intCast_mul, Rat.intCast_mul, ← ex]; grind
  refine ⟨fit.sheetOk gr, fun o po => Dom.piv (po.nodup_iff.mpr List.nodup_range) fun i hi => ?_⟩
  obtain ⟨r, hs, ea⟩ := row i (List.mem_range.mp (po.mem_iff.mp hi))
  rw [ea i, sm_congr (g := fun j => ab (rowF r j)) fun a _ => by rw [ea]]
  exact hs.dom (po.nodup_iff.mpr List.nodup_range) fun j hj => po.mem_iff.mpr (List.mem_range.mpr hj)
end
end FW
end

/-! ## W24 -/
section
set_option Elab.async false
set_option linter.all false
set_option maxRecDepth 100000
set_option maxHeartbeats 4000000
namespace FW
open PySem PySem.Spec PyProof.Rows L2 FF
/-- the product of a row's denominators -/
def dprod : List Part → Nat
  | [] => 1
  | p :: r => p.2.den * dprod r
theorem dprod_ne : ∀ r : List Part, dprod r ≠ 0
  | [] => by decide
  | p :: r => Nat.mul_ne_zero p.2.den_nz (dprod_ne r)
theorem dprod_le : ∀ {r : List Part}, (∀ p ∈ r, NumOk p.2) → dprod r ≤ 1000000 ^ r.length
  | [], _ => by decide
  | p :: r, h => by
    show p.2.den * dprod r ≤ 1000000 ^ (r.length + 1)
    rw [Nat.pow_succ, Nat.mul_comm]
    exact Nat.mul_le_mul (dprod_le fun q hq => h q (List.mem_cons_of_mem _ hq)) (h p List.mem_cons_self).2
theorem rat_den (q : Rat) : q * (q.den : Rat) = (q.num : Rat) := by
  have h1 := Rat.num_divInt_den q
  rw [Rat.divInt_eq_div] at h1
  have h2 : ((q.den : Int) : Rat) = (q.den : Rat) := rfl
  rw [h2] at h1
  have h3 : (q.den : Rat) ≠ 0 := by exact_mod_cast q.den_nz
  grind
theorem dprod_mul : ∀ {r : List Part}, (∀ p ∈ r, NumOk p.2) → ∀ p ∈ r, ∃ x : Int, x.natAbs ≤ 1000000 ^ r.length ∧ p.2 * (dprod r : Rat) = (x : Rat)
  | a :: r, h, p, hp => by
    have hr := fun q hq => h q (List.mem_cons_of_mem a hq)
    rcases List.mem_cons.mp hp with rfl | hp
    · refine ⟨p.2.num * (dprod r : Int), ?_, ?_⟩
      · rw [Int.natAbs_mul, List.length_cons, Nat.pow_succ, Nat.mul_comm]
        exact Nat.mul_le_mul (by simpa using dprod_le hr) (h p List.mem_cons_self).1
      · show p.2 * ((p.2.den * dprod r : Nat) : Rat) = _
        rw [Rat.natCast_mul, Rat.intCast_mul, ← rat_den p.2]
        have : ((dprod r : Int) : Rat) = (dprod r : Rat) := rfl
        rw [this]; grind
    · obtain ⟨x, hx, e⟩ := dprod_mul hr p hp
      refine ⟨x * (a.2.den : Int), ?_, ?_⟩
      · rw [Int.natAbs_mul, List.length_cons, Nat.pow_succ]
        exact Nat.mul_le_mul hx (by simpa using (h a List.mem_cons_self).2)
      · show p.2 * ((a.2.den * dprod r : Nat) : Rat) = _
        rw [Rat.natCast_mul, Rat.intCast_mul, ← e]
        have : ((a.2.den : Int) : Rat) = (a.2.den : Rat) := rfl
        rw [this]; grind
theorem any_all : AnyAll := fun n rows F hn ok nF => by
  have hl := ok.good.1
  have row : ∀ i < n, ∃ r, rows.getD i [] = r ∧ r.length ≤ 4 ∧ GoodRow n r ∧ (∀ p ∈ r, NumOk p.2) ∧ ∀ j, matOf rows i j = rowF r j := fun i hi => by
    have e := List.getElem?_eq_getElem (show i < rows.length by rw [hl]; exact hi)
    have hm := List.mem_of_getElem? e
    have g := ok.good.2.2 _ hm
    have eg : rows.getD i [] = rows[i]'(by rw [hl]; exact hi) := by rw [List.getD_eq_getElem?_getD, e]; rfl
    exact ⟨_, eg, Nat.le_trans g.len hn, g, ok.num _ hm, fun j => by unfold matOf; rw [eg]⟩
  have p24 : ∀ {k : Nat}, k ≤ 4 → 1000000 ^ k ≤ 1000000 ^ 4 := fun h => Nat.pow_le_pow_right (by decide) h
  have fit : Fit n (matOf rows) F (fun i => (dprod (rows.getD i []) : Int) * ((F i).den : Int)) 100 := by
    refine ⟨fun i hi => ?_, ?_, fun i hi => ?_, fun i hi j hj => ?_⟩
    · obtain ⟨r, er, l4, g, nr, _⟩ := row i hi
      have h1 := Nat.le_trans (dprod_le nr) (p24 l4)
      have h2 := (nF i hi).2
      refine ⟨Int.mul_ne_zero (by exact_mod_cast dprod_ne _) (by exact_mod_cast (F i).den_nz), ?_⟩
      show ((dprod (rows.getD i []) : Int) * ((F i).den : Int)).natAbs < _
      rw [er, Int.natAbs_mul]
      have : (dprod r : Int).natAbs * ((F i).den : Int).natAbs ≤ 1000000 ^ 4 * 1000000 := Nat.mul_le_mul (by simpa using h1) (by simpa using h2)
      exact Nat.lt_of_le_of_lt this (by decide)
    · have : n = 0 ∨ n = 1 ∨ n = 2 ∨ n = 3 ∨ n = 4 := by omega
      rcases this with e | e | e | e | e <;> subst e <;> exact ⟨by decide, by decide, by decide, by decide⟩
    · obtain ⟨r, er, l4, g, nr, _⟩ := row i hi
      have h1 := Nat.le_trans (dprod_le nr) (p24 l4)
      have h2 := (nF i hi).1
      refine ⟨(dprod r : Int) * (F i).num, ?_, ?_⟩
      · rw [Int.natAbs_mul]
        have : (dprod r : Int).natAbs * (F i).num.natAbs ≤ 1000000 ^ 4 * 1000000 := Nat.mul_le_mul (by simpa using h1) h2
        exact Nat.lt_of_le_of_lt this (by decide)
      · show F i * (((dprod (rows.getD i []) : Int) * ((F i).den : Int) : Int) : Rat) = _
        rw [er, Rat.intCast_mul, Rat.intCast_mul, ← rat_den (F i)]
        have : (((F i).den : Int) : Rat) = ((F i).den : Rat) := rfl
        rw [this]; grind
    · obtain ⟨r, er, l4, g, nr, ea⟩ := row i hi
      have h2 := (nF i hi).2
      have ndr : (plc r).Nodup := g.inc.imp fun h => Nat.ne_of_lt h
      obtain ⟨x, hx, e⟩ : ∃ x : Int, x.natAbs ≤ 1000000 ^ 4 ∧ rowF r j * (dprod r : Rat) = (x : Rat) := by
        by_cases hz : rowF r j = 0
        · exact ⟨0, by decide, by rw [hz]; grind⟩
        · obtain ⟨x, hx, e⟩ := dprod_mul nr _ (rowF_ne hz)
          exact ⟨x, Nat.le_trans hx (p24 l4), e⟩
      refine ⟨x * ((F i).den : Int), ?_, ?_⟩
      · rw [Int.natAbs_mul]
        have : x.natAbs * ((F i).den : Int).natAbs ≤ 1000000 ^ 4 * 1000000 := Nat.mul_le_mul hx (by simpa using h2)
        exact Nat.lt_of_le_of_lt this (by decide)
      · show matOf rows i j * (((dprod (rows.getD i []) : Int) * ((F i).den : Int) : Int) : Rat) = _
        rw [ea, er, Rat.intCast_mul, Rat.intCast_mul, ← e]
        have : ((dprod r : Int) : Rat) = (dprod r : Rat) := rfl
        rw [this]; grind
  exact fit.sheetOk ok.good
end FW
end

/-! ## End -/
set_option Elab.async false
set_option linter.all false
set_option maxRecDepth 100000
namespace FW
open PySem PySem.Spec PyProof.Rows L2 FF
theorem law_mk {l : PySem.W.OpenLaw} {w : World} {K : PySem.W.Frag} {h : Heap} {mg : Str → Option Value} {fa : Addr} (X : K.In h) (G : h.Ns mainGlobals mg) (hfa : mg "law" = some (.ref fa)) (T : Tops K mg) :
    ∃ fd : FuncData, (∀ (s : Shared) (v : Value), BindsTo s fd ⟨[v], []⟩ [("_law_script", v)]) ∧ ∀ base : Heap, K.In base → base.Ns mainGlobals mg → FnOk l.prog w K mg base CX0 13 fa fd ["_law_script"] (sp_law K) := by
  obtain ⟨f, fd, F, e⟩ := T.d_law.ex
  rw [hfa] at e
  cases e
  obtain ⟨oc, od, kV, doc, pm, an, cdv, ct, osl, rfl, lk, hcd⟩ := F.ex
  exact ⟨PySem.W.fnOf "law" "law" (defArgs (topS 64)) (defBody (topS 64)) (defScope (topS 64)) .none kV doc pm an cdv ct, fun s v => .of_eq rfl, fun base _ _ => law_ok T sure_all any_all F⟩
end FW
open PySem PySem.W PyProof.Rows
set_option maxHeartbeats 0 in
theorem PySem.Challenge.cw_fewfills_k53_whole_any_order_holds : PySem.Challenge.rw_fewfills_k53_whole_any_order.Holds := by
  w_on; o_law; k_head; (case hw => w_witness2)
  k_fill
  refine L2.walk_of (l := PySem.Challenge.rw_fewfills_k53_whole_any_order) (n := 63) (k := 13) (x := "_law_script") (CX := fun _ => L2.CX0) (sp := fun w => FW.sp_law _) rfl (by decide) rfl ⟨rfl, by decide, by decide⟩ (fun w h Y => PySem.W.kIn_of Y) ?F (fun _ _ a ns hl _ hS => ⟨a, ns, rfl, hS, hl, fun _ => rfl⟩) (fun _ _ _ _ _ h => h)
  case F =>
    intro w mg fa h KX G hmg
    refine FW.law_mk KX G hmg ?T
    refine' FW.tops_mk KX G ?a10 ?l10 ?c10 ?k10 ?a11 ?l11 ?c11 ?k11 ?a12 ?l12 ?c12 ?k12 ?a13 ?l13 ?c13 ?k13 ?a14 ?l14 ?c14 ?k14 ?a15 ?l15 ?c15 ?k15 ?a16 ?l16 ?c16 ?k16 ?a17 ?l17 ?c17 ?k17 ?a20 ?l20 ?c20 ?k20 ?a21 ?l21 ?c21 ?k21 ?a22 ?l22 ?c22 ?k22 ?a23 ?l23 ?c23 ?k23 ?a24 ?l24 ?c24 ?k24 ?a27 ?l27 ?c27 ?k27 ?a28 ?l28 ?c28 ?k28 ?a29 ?l29 ?c29 ?k29 ?a30 ?l30 ?c30 ?k30 ?a31 ?l31 ?c31 ?k31 ?a32 ?l32 ?c32 ?k32 ?a34 ?l34 ?c34 ?k34 ?a35 ?l35 ?c35 ?k35 ?a36 ?l36 ?c36 ?k36 ?a37 ?l37 ?c37 ?k37 ?a38 ?l38 ?c38 ?k38 ?a40 ?l40 ?c40 ?k40 ?a41 ?l41 ?c41 ?k41 ?a42 ?l42 ?c42 ?k42 ?a43 ?l43 ?c43 ?k43 ?a44 ?l44 ?c44 ?k44 ?a45 ?l45 ?c45 ?k45 ?a46 ?l46 ?c46 ?k46 ?a47 ?l47 ?c47 ?k47 ?a48 ?l48 ?c48 ?k48 ?a49 ?l49 ?c49 ?k49 ?a50 ?l50 ?c50 ?k50 ?a51 ?l51 ?c51 ?k51 ?a52 ?l52 ?c52 ?k52 ?a53 ?l53 ?c53 ?k53 ?a54 ?l54 ?c54 ?k54 ?a55 ?l55 ?c55 ?k55 ?a56 ?l56 ?c56 ?k56 ?a57 ?l57 ?c57 ?k57 ?a58 ?l58 ?c58 ?k58 ?a59 ?l59 ?c59 ?k59 ?a60 ?l60 ?c60 ?k60 ?a61 ?l61 ?c61 ?k61 ?a62 ?l62 ?c62 ?k62 ?a63 ?l63 ?c63 ?k63 ?a64 ?l64 ?c64 ?k64 ?z_abs ?z_all ?z_bool ?z_dict ?z_enumerate ?z_int ?z_isinstance ?z_len ?z_list ?z_max ?z_min ?z_range ?z_reversed ?z_set ?z_sorted ?z_tuple ?z_zip ?gN ?oN ?gO ?oO ?p_webs ?p_sheets ?gC ?gF ?xC ?sa ?nP ?iC ?tI ?lI ?cI ?kI ?kC ?eC ?tC ?isC ?sC ?gaF ?rF ?vF
    (case a10 => k_is); (case l10 => k_is); (case c10 => k_is); (case k10 => k_is); (case a11 => k_is); (case l11 => k_is)
    (case c11 => k_is); (case k11 => k_is); (case a12 => k_is); (case l12 => k_is); (case c12 => k_is); (case k12 => k_is)
    (case a13 => k_is); (case l13 => k_is); (case c13 => k_is); (case k13 => k_is); (case a14 => k_is); (case l14 => k_is)
    (case c14 => k_is); (case k14 => k_is); (case a15 => k_is); (case l15 => k_is); (case c15 => k_is); (case k15 => k_is)
    (case a16 => k_is); (case l16 => k_is); (case c16 => k_is); (case k16 => k_is); (case a17 => k_is); (case l17 => k_is)
    (case c17 => k_is); (case k17 => k_is); (case a20 => k_is); (case l20 => k_is); (case c20 => k_is); (case k20 => k_is)
    (case a21 => k_is); (case l21 => k_is); (case c21 => k_is); (case k21 => k_is); (case a22 => k_is); (case l22 => k_is)
    (case c22 => k_is); (case k22 => k_is); (case a23 => k_is); (case l23 => k_is); (case c23 => k_is); (case k23 => k_is)
    (case a24 => k_is); (case l24 => k_is); (case c24 => k_is); (case k24 => k_is); (case a27 => k_is); (case l27 => k_is)
    (case c27 => k_is); (case k27 => k_is); (case a28 => k_is); (case l28 => k_is); (case c28 => k_is); (case k28 => k_is)
    (case a29 => k_is); (case l29 => k_is); (case c29 => k_is); (case k29 => k_is); (case a30 => k_is); (case l30 => k_is)
    (case c30 => k_is); (case k30 => k_is); (case a31 => k_is); (case l31 => k_is); (case c31 => k_is); (case k31 => k_is)
    (case a32 => k_is); (case l32 => k_is); (case c32 => k_is); (case k32 => k_is); (case a34 => k_is); (case l34 => k_is)
    (case c34 => k_is); (case k34 => k_is); (case a35 => k_is); (case l35 => k_is); (case c35 => k_is); (case k35 => k_is)
    (case a36 => k_is); (case l36 => k_is); (case c36 => k_is); (case k36 => k_is); (case a37 => k_is); (case l37 => k_is)
    (case c37 => k_is); (case k37 => k_is); (case a38 => k_is); (case l38 => k_is); (case c38 => k_is); (case k38 => k_is)
    (case a40 => k_is); (case l40 => k_is); (case c40 => k_is); (case k40 => k_is); (case a41 => k_is); (case l41 => k_is)
    (case c41 => k_is); (case k41 => k_is); (case a42 => k_is); (case l42 => k_is); (case c42 => k_is); (case k42 => k_is)
    (case a43 => k_is); (case l43 => k_is); (case c43 => k_is); (case k43 => k_is); (case a44 => k_is); (case l44 => k_is)
    (case c44 => k_is); (case k44 => k_is); (case a45 => k_is); (case l45 => k_is); (case c45 => k_is); (case k45 => k_is)
    (case a46 => k_is); (case l46 => k_is); (case c46 => k_is); (case k46 => k_is); (case a47 => k_is); (case l47 => k_is)
    (case c47 => k_is); (case k47 => k_is); (case a48 => k_is); (case l48 => k_is); (case c48 => k_is); (case k48 => k_is)
    (case a49 => k_is); (case l49 => k_is); (case c49 => k_is); (case k49 => k_is); (case a50 => k_is); (case l50 => k_is)
    (case c50 => k_is); (case k50 => k_is); (case a51 => k_is); (case l51 => k_is); (case c51 => k_is); (case k51 => k_is)
    (case a52 => k_is); (case l52 => k_is); (case c52 => k_is); (case k52 => k_is); (case a53 => k_is); (case l53 => k_is)
    (case c53 => k_is); (case k53 => k_is); (case a54 => k_is); (case l54 => k_is); (case c54 => k_is); (case k54 => k_is)
    (case a55 => k_is); (case l55 => k_is); (case c55 => k_is); (case k55 => k_is); (case a56 => k_is); (case l56 => k_is)
    (case c56 => k_is); (case k56 => k_is); (case a57 => k_is); (case l57 => k_is); (case c57 => k_is); (case k57 => k_is)
    (case a58 => k_is); (case l58 => k_is); (case c58 => k_is); (case k58 => k_is); (case a59 => k_is); (case l59 => k_is)
    (case c59 => k_is); (case k59 => k_is); (case a60 => k_is); (case l60 => k_is); (case c60 => k_is); (case k60 => k_is)
    (case a61 => k_is); (case l61 => k_is); (case c61 => k_is); (case k61 => k_is); (case a62 => k_is); (case l62 => k_is)
    (case c62 => k_is); (case k62 => k_is); (case a63 => k_is); (case l63 => k_is); (case c63 => k_is); (case k63 => k_is)
    (case a64 => k_is); (case l64 => k_is); (case c64 => k_is); (case k64 => k_is); (case z_abs => k_is); (case z_all => k_is)
    (case z_bool => k_is); (case z_dict => k_is); (case z_enumerate => k_is); (case z_int => k_is); (case z_isinstance => k_is); (case z_len => k_is)
    (case z_list => k_is); (case z_max => k_is); (case z_min => k_is); (case z_range => k_is); (case z_reversed => k_is); (case z_set => k_is)
    (case z_sorted => k_is); (case z_tuple => k_is); (case z_zip => k_is); (case gN => k_is); (case oN => k_is); (case gO => k_is)
    (case oO => k_is); (case p_webs => k_is); (case p_sheets => k_is); (case gC => k_is); (case gF => k_is); (case xC => k_is)
    (case sa => k_is); (case nP => k_is); (case iC => k_is); (case tI => k_is); (case lI => k_is); (case cI => k_is)
    (case kI => k_is); (case kC => k_is); (case eC => k_is); (case tC => k_is); (case isC => k_is); (case sC => first | rfl | k_is)
    (case gaF => k_is); (case rF => k_is); (case vF => k_is)
